import PyProof.Rows.All
import Wide.All
import OpenK.AllK
import Wide.FinOn
import PySem.Challenge.RW_fitmost_k32_whole_kinds_written
import HandS.ForMost
import HandS.Defaults
import HandS.Head0
import HandS.Head1
import HandS.Head2
import HandS.HeadEnd
import HandS.HeadHook1
import HandS.HeadHook2
import HandS.HeadHook3
import HandS.Deep
import HandS.TupAny
import KE.DataMinMax
import KE.SortData
import PyProof.Rows.NestShow
import PyProof.Rows.NestFoldShow
import HandS.Iter
import PyProof.Draws
import PyProof.EnumMake
import HandS.TupSets
import KE.KeyNested
import HandS.Comp
import HandS.AnyAll
import HandS.IsInst
import HandS.Wide
import HandS.Evl
import HandS.Text
import HandS.Style
import KE.KIntText
import PyProof.StrLawsTight
import PyProof.Rows.StrNews2
import HandS.Conv
import HandS.Dict
import PyProof.StrLawsRepr
set_option Elab.async false
set_option linter.all false
set_option maxRecDepth 100000
/-! the text by places: each def of the top, its names by slot. Printed by gen1.py. -/
namespace Fm
open PySem PySem.Spec PyProof.Rows L2
def topS (i : Nat) : Stmt := PySem.Challenge.pw_fitmost_k32_whole_kinds_written.main.body.getD i (.Pass ⟨0, 0, 0, 0⟩)
abbrev s_has_numbers : Stmt := topS 9
abbrev n_has_numbers : List Str := ["low", "high"]
theorem sc_has_numbers : FnScope n_has_numbers ["low", "high"] (defScope s_has_numbers) := ⟨rfl, rfl, rfl, by decide +kernel, rfl, by decide +kernel, by decide +kernel⟩
abbrev s_greater_low : Stmt := topS 10
abbrev n_greater_low : List Str := ["one", "other"]
theorem sc_greater_low : FnScope n_greater_low ["one", "other"] (defScope s_greater_low) := ⟨rfl, rfl, rfl, by decide +kernel, rfl, by decide +kernel, by decide +kernel⟩
abbrev s_lesser_high : Stmt := topS 11
abbrev n_lesser_high : List Str := ["one", "other"]
theorem sc_lesser_high : FnScope n_lesser_high ["one", "other"] (defScope s_lesser_high) := ⟨rfl, rfl, rfl, by decide +kernel, rfl, by decide +kernel, by decide +kernel⟩
abbrev s_greater_high : Stmt := topS 12
abbrev n_greater_high : List Str := ["one", "other"]
theorem sc_greater_high : FnScope n_greater_high ["one", "other"] (defScope s_greater_high) := ⟨rfl, rfl, rfl, by decide +kernel, rfl, by decide +kernel, by decide +kernel⟩
abbrev s_goes_on : Stmt := topS 13
abbrev n_goes_on : List Str := ["high", "low"]
theorem sc_goes_on : FnScope n_goes_on ["high", "low"] (defScope s_goes_on) := ⟨rfl, rfl, rfl, by decide +kernel, rfl, by decide +kernel, by decide +kernel⟩
abbrev s_spans_formed : Stmt := topS 14
abbrev n_spans_formed : List Str := ["spans", "found", "low", "high", "span"]
theorem sc_spans_formed : FnScope n_spans_formed ["spans"] (defScope s_spans_formed) := ⟨rfl, rfl, rfl, by decide +kernel, rfl, by decide +kernel, by decide +kernel⟩
abbrev s_spans_met : Stmt := topS 15
abbrev n_spans_met : List Str := ["one", "other", "found", "low", "high", "other_low", "other_high"]
theorem sc_spans_met : FnScope n_spans_met ["one", "other"] (defScope s_spans_met) := ⟨rfl, rfl, rfl, by decide +kernel, rfl, by decide +kernel, by decide +kernel⟩
abbrev s_gaps_of : Stmt := topS 16
abbrev n_gaps_of : List Str := ["spans", "found", "begin", "low", "high"]
theorem sc_gaps_of : FnScope n_gaps_of ["spans"] (defScope s_gaps_of) := ⟨rfl, rfl, rfl, by decide +kernel, rfl, by decide +kernel, by decide +kernel⟩
abbrev s_number_of : Stmt := topS 17
abbrev n_number_of : List Str := ["low", "high"]
theorem sc_number_of : FnScope n_number_of ["low", "high"] (defScope s_number_of) := ⟨rfl, rfl, rfl, by decide +kernel, rfl, by decide +kernel, by decide +kernel⟩
abbrev s_spans_apart : Stmt := topS 18
abbrev n_spans_apart : List Str := ["one", "other", "left", "low", "high"]
theorem sc_spans_apart : FnScope n_spans_apart ["one", "other"] (defScope s_spans_apart) := ⟨rfl, rfl, rfl, by decide +kernel, rfl, by decide +kernel, by decide +kernel⟩
abbrev s_any_kind : Stmt := topS 21
abbrev n_any_kind : List Str := []
theorem sc_any_kind : FnScope n_any_kind [] (defScope s_any_kind) := ⟨rfl, rfl, rfl, by decide +kernel, rfl, by decide +kernel, by decide +kernel⟩
abbrev s_reformed : Stmt := topS 22
abbrev n_reformed : List Str := ["web", "kind"]
theorem sc_reformed : FnScope n_reformed ["web", "kind"] (defScope s_reformed) := ⟨rfl, rfl, rfl, by decide +kernel, rfl, by decide +kernel, by decide +kernel⟩
abbrev s_outmost : Stmt := topS 23
abbrev n_outmost : List Str := ["web", "inners", "some", "found", "one", "other"]
theorem sc_outmost : FnScope n_outmost ["web", "inners"] (defScope s_outmost) := ⟨rfl, rfl, rfl, by decide +kernel, rfl, by decide +kernel, by decide +kernel⟩
abbrev s_formed : Stmt := topS 24
abbrev n_formed : List Str := ["web", "names", "spans", "inners", "rows", "inner"]
theorem sc_formed : FnScope n_formed ["web", "names", "spans", "inners"] (defScope s_formed) := ⟨rfl, rfl, rfl, by decide +kernel, rfl, by decide +kernel, by decide +kernel⟩
abbrev s_first_beyond : Stmt := topS 25
abbrev n_first_beyond : List Str := ["web", "names", "others", "name", "other"]
theorem sc_first_beyond : FnScope n_first_beyond ["web", "names", "others"] (defScope s_first_beyond) := ⟨rfl, rfl, rfl, by decide +kernel, rfl, by decide +kernel, by decide +kernel⟩
abbrev s_inner_beyond : Stmt := topS 26
abbrev n_inner_beyond : List Str := ["web", "inners", "others", "inner", "other"]
theorem sc_inner_beyond : FnScope n_inner_beyond ["web", "inners", "others"] (defScope s_inner_beyond) := ⟨rfl, rfl, rfl, by decide +kernel, rfl, by decide +kernel, by decide +kernel⟩
abbrev s_within : Stmt := topS 27
abbrev n_within : List Str := ["web", "one", "other"]
theorem sc_within : FnScope n_within ["web", "one", "other"] (defScope s_within) := ⟨rfl, rfl, rfl, by decide +kernel, rfl, by decide +kernel, by decide +kernel⟩
abbrev s_is_name : Stmt := topS 32
abbrev n_is_name : List Str := ["thing", "sign"]
theorem sc_is_name : FnScope n_is_name ["thing"] (defScope s_is_name) := ⟨rfl, rfl, rfl, by decide +kernel, rfl, by decide +kernel, by decide +kernel⟩
abbrev s_are_figures : Stmt := topS 36
abbrev n_are_figures : List Str := ["text", "sign"]
theorem sc_are_figures : FnScope n_are_figures ["text"] (defScope s_are_figures) := ⟨rfl, rfl, rfl, by decide +kernel, rfl, by decide +kernel, by decide +kernel⟩
abbrev s_read_number : Stmt := topS 37
abbrev n_read_number : List Str := ["text", "figures"]
theorem sc_read_number : FnScope n_read_number ["text"] (defScope s_read_number) := ⟨rfl, rfl, rfl, by decide +kernel, rfl, by decide +kernel, by decide +kernel⟩
abbrev s_show_number : Stmt := topS 38
abbrev n_show_number : List Str := ["number"]
theorem sc_show_number : FnScope n_show_number ["number"] (defScope s_show_number) := ⟨rfl, rfl, rfl, by decide +kernel, rfl, by decide +kernel, by decide +kernel⟩
abbrev s_cut : Stmt := topS 41
abbrev n_cut : List Str := ["text", "sign", "parts", "deep", "begin", "at", "here"]
theorem sc_cut : FnScope n_cut ["text", "sign"] (defScope s_cut) := ⟨rfl, rfl, rfl, by decide +kernel, rfl, by decide +kernel, by decide +kernel⟩
abbrev s_inner_of : Stmt := topS 42
abbrev n_inner_of : List Str := ["text", "deep"]
theorem sc_inner_of : FnScope n_inner_of ["text", "deep"] (defScope s_inner_of) := ⟨rfl, rfl, rfl, by decide +kernel, rfl, by decide +kernel, by decide +kernel⟩
abbrev s_read_end : Stmt := topS 43
abbrev n_read_end : List Str := ["text"]
theorem sc_read_end : FnScope n_read_end ["text"] (defScope s_read_end) := ⟨rfl, rfl, rfl, by decide +kernel, rfl, by decide +kernel, by decide +kernel⟩
abbrev s_read_span : Stmt := topS 44
abbrev n_read_span : List Str := ["text", "low", "dots", "high", "number", "span"]
theorem sc_read_span : FnScope n_read_span ["text"] (defScope s_read_span) := ⟨rfl, rfl, rfl, by decide +kernel, rfl, by decide +kernel, by decide +kernel⟩
abbrev s_Parts_init : Stmt := inClass (topS 45) 0
abbrev n_Parts_init : List Str := ["self", "text", "deep", "part"]
theorem sc_Parts_init : FnScope n_Parts_init ["self", "text", "deep"] (defScope s_Parts_init) := ⟨rfl, rfl, rfl, by decide +kernel, rfl, by decide +kernel, by decide +kernel⟩
abbrev s_Parts_put : Stmt := inClass (topS 45) 1
abbrev n_Parts_put : List Str := ["self", "part", "deep"]
theorem sc_Parts_put : FnScope n_Parts_put ["self", "part", "deep"] (defScope s_Parts_put) := ⟨rfl, rfl, rfl, by decide +kernel, rfl, by decide +kernel, by decide +kernel⟩
abbrev s_Parts_all_words : Stmt := inClass (topS 45) 2
abbrev n_Parts_all_words : List Str := ["self", "found", "inner"]
theorem sc_Parts_all_words : FnScope n_Parts_all_words ["self"] (defScope s_Parts_all_words) := ⟨rfl, rfl, rfl, by decide +kernel, rfl, by decide +kernel, by decide +kernel⟩
abbrev s_Parts_formed_by : Stmt := inClass (topS 45) 3
abbrev n_Parts_formed_by : List Str := ["self", "web", "inner"]
theorem sc_Parts_formed_by : FnScope n_Parts_formed_by ["self", "web"] (defScope s_Parts_formed_by) := ⟨rfl, rfl, rfl, by decide +kernel, rfl, by decide +kernel, by decide +kernel⟩
abbrev s_check_names : Stmt := topS 46
abbrev n_check_names : List Str := ["web", "names", "known", "name"]
theorem sc_check_names : FnScope n_check_names ["web", "names"] (defScope s_check_names) := ⟨rfl, rfl, rfl, by decide +kernel, rfl, by decide +kernel, by decide +kernel⟩
abbrev s_read_kind : Stmt := topS 47
abbrev n_read_kind : List Str := ["web", "text", "parts"]
theorem sc_read_kind : FnScope n_read_kind ["web", "text"] (defScope s_read_kind) := ⟨rfl, rfl, rfl, by decide +kernel, rfl, by decide +kernel, by decide +kernel⟩
abbrev s_show_span : Stmt := topS 48
abbrev n_show_span : List Str := ["span", "low", "high", "number"]
theorem sc_show_span : FnScope n_show_span ["span"] (defScope s_show_span) := ⟨rfl, rfl, rfl, by decide +kernel, rfl, by decide +kernel, by decide +kernel⟩
abbrev s_show_kind : Stmt := topS 49
abbrev n_show_kind : List Str := ["kind", "whole", "names", "spans", "inners", "parts", "span", "inner"]
theorem sc_show_kind : FnScope n_show_kind ["kind"] (defScope s_show_kind) := ⟨rfl, rfl, rfl, by decide +kernel, rfl, by decide +kernel, by decide +kernel⟩
abbrev s_look_at_names : Stmt := topS 51
abbrev n_look_at_names : List Str := ["tuples", "name", "over", "names", "one"]
theorem sc_look_at_names : FnScope n_look_at_names ["tuples"] (defScope s_look_at_names) := ⟨rfl, rfl, rfl, by decide +kernel, rfl, by decide +kernel, by decide +kernel⟩
abbrev s_in_rings : Stmt := topS 52
abbrev n_in_rings : List Str := ["uppers", "left", "again", "free", "name", "one"]
theorem sc_in_rings : FnScope n_in_rings ["uppers"] (defScope s_in_rings) := ⟨rfl, rfl, rfl, by decide +kernel, rfl, by decide +kernel, by decide +kernel⟩
abbrev s_look_for_rings : Stmt := topS 53
abbrev n_look_for_rings : List Str := ["uppers", "left", "way", "onward", "one"]
theorem sc_look_for_rings : FnScope n_look_for_rings ["uppers"] (defScope s_look_for_rings) := ⟨rfl, rfl, rfl, by decide +kernel, rfl, by decide +kernel, by decide +kernel⟩
abbrev s_Web_init : Stmt := inClass (topS 54) 0
abbrev n_Web_init : List Str := ["self", "tuples", "name", "over"]
theorem sc_Web_init : FnScope n_Web_init ["self", "tuples"] (defScope s_Web_init) := ⟨rfl, rfl, rfl, by decide +kernel, rfl, by decide +kernel, by decide +kernel⟩
abbrev s_Web_names : Stmt := inClass (topS 54) 1
abbrev n_Web_names : List Str := ["self"]
theorem sc_Web_names : FnScope n_Web_names ["self"] (defScope s_Web_names) := ⟨rfl, rfl, rfl, by decide +kernel, rfl, by decide +kernel, by decide +kernel⟩
abbrev s_Web_over : Stmt := inClass (topS 54) 2
abbrev n_Web_over : List Str := ["self", "name"]
theorem sc_Web_over : FnScope n_Web_over ["self", "name"] (defScope s_Web_over) := ⟨rfl, rfl, rfl, by decide +kernel, rfl, by decide +kernel, by decide +kernel⟩
abbrev s_Web_above : Stmt := inClass (topS 54) 3
abbrev n_Web_above : List Str := ["self", "name", "found", "pile", "here", "upper"]
theorem sc_Web_above : FnScope n_Web_above ["self", "name"] (defScope s_Web_above) := ⟨rfl, rfl, rfl, by decide +kernel, rfl, by decide +kernel, by decide +kernel⟩
abbrev s_Web_beneath : Stmt := inClass (topS 54) 5
abbrev n_Web_beneath : List Str := ["self", "one", "other"]
theorem sc_Web_beneath : FnScope n_Web_beneath ["self", "one", "other"] (defScope s_Web_beneath) := ⟨rfl, rfl, rfl, by decide +kernel, rfl, by decide +kernel, by decide +kernel⟩
abbrev s_Web_tops : Stmt := inClass (topS 54) 6
abbrev n_Web_tops : List Str := ["self", "names", "found", "name", "other"]
theorem sc_Web_tops : FnScope n_Web_tops ["self", "names"] (defScope s_Web_tops) := ⟨rfl, rfl, rfl, by decide +kernel, rfl, by decide +kernel, by decide +kernel⟩
abbrev s_read_name : Stmt := topS 56
abbrev n_read_name : List Str := ["text"]
theorem sc_read_name : FnScope n_read_name ["text"] (defScope s_read_name) := ⟨rfl, rfl, rfl, by decide +kernel, rfl, by decide +kernel, by decide +kernel⟩
abbrev s_read_over : Stmt := topS 57
abbrev n_read_over : List Str := ["text", "part"]
theorem sc_read_over : FnScope n_read_over ["text"] (defScope s_read_over) := ⟨rfl, rfl, rfl, by decide +kernel, rfl, by decide +kernel, by decide +kernel⟩
abbrev s_read_tuple : Stmt := topS 58
abbrev n_read_tuple : List Str := ["text", "name", "colon", "over"]
theorem sc_read_tuple : FnScope n_read_tuple ["text"] (defScope s_read_tuple) := ⟨rfl, rfl, rfl, by decide +kernel, rfl, by decide +kernel, by decide +kernel⟩
abbrev s_read_web : Stmt := topS 59
abbrev n_read_web : List Str := ["text", "part"]
theorem sc_read_web : FnScope n_read_web ["text"] (defScope s_read_web) := ⟨rfl, rfl, rfl, by decide +kernel, rfl, by decide +kernel, by decide +kernel⟩
abbrev s_show_tuple : Stmt := topS 60
abbrev n_show_tuple : List Str := ["web", "name", "over"]
theorem sc_show_tuple : FnScope n_show_tuple ["web", "name"] (defScope s_show_tuple) := ⟨rfl, rfl, rfl, by decide +kernel, rfl, by decide +kernel, by decide +kernel⟩
abbrev s_show_web : Stmt := topS 61
abbrev n_show_web : List Str := ["web", "name"]
theorem sc_show_web : FnScope n_show_web ["web"] (defScope s_show_web) := ⟨rfl, rfl, rfl, by decide +kernel, rfl, by decide +kernel, by decide +kernel⟩
abbrev s_Lcell : Stmt := topS 63
abbrev n_Lcell : List Str := ["_law_script", "_law_k"]
theorem sc_Lcell : FnScope n_Lcell ["_law_script", "_law_k"] (defScope s_Lcell) := ⟨rfl, rfl, rfl, by decide +kernel, rfl, by decide +kernel, by decide +kernel⟩
abbrev s_Ltake : Stmt := topS 64
abbrev n_Ltake : List Str := ["_law_purse", "_law_many", "_law_number_here", "_law_mixed"]
theorem sc_Ltake : FnScope n_Ltake ["_law_purse", "_law_many"] (defScope s_Ltake) := ⟨rfl, rfl, rfl, by decide +kernel, rfl, by decide +kernel, by decide +kernel⟩
abbrev s_Lname : Stmt := topS 65
abbrev n_Lname : List Str := ["_law_purse", "_law_found", "_law_k"]
theorem sc_Lname : FnScope n_Lname ["_law_purse"] (defScope s_Lname) := ⟨rfl, rfl, rfl, by decide +kernel, rfl, by decide +kernel, by decide +kernel⟩
abbrev s_Ltuples : Stmt := topS 66
abbrev n_Ltuples : List Str := ["_law_script", "_law_start", "_law_way", "_law_head", "_law_found", "_law_names", "_law_k", "_law_purse", "_law_name_here", "_law_turn", "_law_other"]
theorem sc_Ltuples : FnScope n_Ltuples ["_law_script", "_law_start", "_law_way"] (defScope s_Ltuples) := ⟨rfl, rfl, rfl, by decide +kernel, rfl, by decide +kernel, by decide +kernel⟩
abbrev s_Lups : Stmt := topS 67
abbrev n_Lups : List Str := ["_law_tuples_here", "_law_over", "_law_found", "_law_name_here", "_law_straight", "_law_waiting", "_law_seen", "_law_here"]
theorem sc_Lups : FnScope n_Lups ["_law_tuples_here"] (defScope s_Lups) := ⟨rfl, rfl, rfl, by decide +kernel, rfl, by decide +kernel, by decide +kernel⟩
abbrev s_Lnumber : Stmt := topS 68
abbrev n_Lnumber : List Str := ["_law_purse"]
theorem sc_Lnumber : FnScope n_Lnumber ["_law_purse"] (defScope s_Lnumber) := ⟨rfl, rfl, rfl, by decide +kernel, rfl, by decide +kernel, by decide +kernel⟩
abbrev s_Lspan : Stmt := topS 69
abbrev n_Lspan : List Str := ["_law_purse", "_law_way", "_law_low", "_law_high"]
theorem sc_Lspan : FnScope n_Lspan ["_law_purse"] (defScope s_Lspan) := ⟨rfl, rfl, rfl, by decide +kernel, rfl, by decide +kernel, by decide +kernel⟩
abbrev s_Lpart : Stmt := topS 70
abbrev n_Lpart : List Str := ["_law_purse", "_law_names", "_law_deep", "_law_sort", "_law_many", "_law_k"]
theorem sc_Lpart : FnScope n_Lpart ["_law_purse", "_law_names", "_law_deep"] (defScope s_Lpart) := ⟨rfl, rfl, rfl, by decide +kernel, rfl, by decide +kernel, by decide +kernel⟩
abbrev s_Lend : Stmt := topS 71
abbrev n_Lend : List Str := ["_law_low", "_law_number_here"]
theorem sc_Lend : FnScope n_Lend ["_law_low"] (defScope s_Lend) := ⟨rfl, rfl, rfl, by decide +kernel, rfl, by decide +kernel, by decide +kernel⟩
abbrev s_Lpart_text : Stmt := topS 72
abbrev n_Lpart_text : List Str := ["_law_part_here"]
theorem sc_Lpart_text : FnScope n_Lpart_text ["_law_part_here"] (defScope s_Lpart_text) := ⟨rfl, rfl, rfl, by decide +kernel, rfl, by decide +kernel, by decide +kernel⟩
abbrev s_Ltext : Stmt := topS 73
abbrev n_Ltext : List Str := ["_law_row", "_law_part_here"]
theorem sc_Ltext : FnScope n_Ltext ["_law_row"] (defScope s_Ltext) := ⟨rfl, rfl, rfl, by decide +kernel, rfl, by decide +kernel, by decide +kernel⟩
abbrev s_Ltops : Stmt := topS 74
abbrev n_Ltops : List Str := ["_law_names", "_law_ups_here", "_law_found", "_law_one", "_law_other"]
theorem sc_Ltops : FnScope n_Ltops ["_law_names", "_law_ups_here"] (defScope s_Ltops) := ⟨rfl, rfl, rfl, by decide +kernel, rfl, by decide +kernel, by decide +kernel⟩
abbrev s_Lmerged : Stmt := topS 75
abbrev n_Lmerged : List Str := ["_law_stretches", "_law_found", "_law_low", "_law_high", "_law_first", "_law_last"]
theorem sc_Lmerged : FnScope n_Lmerged ["_law_stretches"] (defScope s_Lmerged) := ⟨rfl, rfl, rfl, by decide +kernel, rfl, by decide +kernel, by decide +kernel⟩
abbrev s_Lcovers : Stmt := topS 76
abbrev n_Lcovers : List Str := ["_law_one", "_law_other", "_law_low"]
theorem sc_Lcovers : FnScope n_Lcovers ["_law_one", "_law_other"] (defScope s_Lcovers) := ⟨rfl, rfl, rfl, by decide +kernel, rfl, by decide +kernel, by decide +kernel⟩
abbrev s_Llies : Stmt := topS 77
abbrev n_Llies : List Str := ["_law_one", "_law_other", "_law_ups_here", "_law_name_here", "_law_stretch", "_law_inner", "_law_top", "_law_some"]
theorem sc_Llies : FnScope n_Llies ["_law_one", "_law_other", "_law_ups_here"] (defScope s_Llies) := ⟨rfl, rfl, rfl, by decide +kernel, rfl, by decide +kernel, by decide +kernel⟩
abbrev s_Louter : Stmt := topS 78
abbrev n_Louter : List Str := ["_law_some", "_law_ups_here", "_law_unlike", "_law_kind_here", "_law_found", "_law_other"]
theorem sc_Louter : FnScope n_Louter ["_law_some", "_law_ups_here"] (defScope s_Louter) := ⟨rfl, rfl, rfl, by decide +kernel, rfl, by decide +kernel, by decide +kernel⟩
abbrev s_Lkind : Stmt := topS 79
abbrev n_Lkind : List Str := ["_law_row", "_law_ups_here", "_law_names", "_law_stretches", "_law_inners", "_law_part_here"]
theorem sc_Lkind : FnScope n_Lkind ["_law_row", "_law_ups_here"] (defScope s_Lkind) := ⟨rfl, rfl, rfl, by decide +kernel, rfl, by decide +kernel, by decide +kernel⟩
abbrev s_Lshown : Stmt := topS 80
abbrev n_Lshown : List Str := ["_law_kind_here", "_law_texts", "_law_low", "_law_high", "_law_inner"]
theorem sc_Lshown : FnScope n_Lshown ["_law_kind_here"] (defScope s_Lshown) := ⟨rfl, rfl, rfl, by decide +kernel, rfl, by decide +kernel, by decide +kernel⟩
abbrev s_law : Stmt := topS 81
abbrev n_law : List Str := ["_law_script", "_law_way", "_law_tuples_here", "_law_ups_here", "_law_web", "_law_names", "_law_k", "_law_purse", "_law_row", "_law_due", "_law_found", "_law_text_here", "_law_name_here", "_law_over", "_law_turn"]
theorem sc_law : FnScope n_law ["_law_script"] (defScope s_law) := ⟨rfl, rfl, rfl, by decide +kernel, rfl, by decide +kernel, by decide +kernel⟩
end Fm
set_option maxHeartbeats 0
/-! the head: facts by names, one kernel run of the top. Printed by gen2.py. -/
namespace Fm
open PySem PySem.Spec PyProof.Rows L2
def dfs : List He.DefD := [
  ⟨("has_numbers", none), "has_numbers", "has_numbers", defArgs s_has_numbers, defBody s_has_numbers, defScope s_has_numbers, [], []⟩,
  ⟨("greater_low", none), "greater_low", "greater_low", defArgs s_greater_low, defBody s_greater_low, defScope s_greater_low, [], []⟩,
  ⟨("lesser_high", none), "lesser_high", "lesser_high", defArgs s_lesser_high, defBody s_lesser_high, defScope s_lesser_high, [], []⟩,
  ⟨("greater_high", none), "greater_high", "greater_high", defArgs s_greater_high, defBody s_greater_high, defScope s_greater_high, [], []⟩,
  ⟨("goes_on", none), "goes_on", "goes_on", defArgs s_goes_on, defBody s_goes_on, defScope s_goes_on, [], []⟩,
  ⟨("spans_formed", none), "spans_formed", "spans_formed", defArgs s_spans_formed, defBody s_spans_formed, defScope s_spans_formed, [], []⟩,
  ⟨("spans_met", none), "spans_met", "spans_met", defArgs s_spans_met, defBody s_spans_met, defScope s_spans_met, [], []⟩,
  ⟨("gaps_of", none), "gaps_of", "gaps_of", defArgs s_gaps_of, defBody s_gaps_of, defScope s_gaps_of, [], []⟩,
  ⟨("number_of", none), "number_of", "number_of", defArgs s_number_of, defBody s_number_of, defScope s_number_of, [], []⟩,
  ⟨("spans_apart", none), "spans_apart", "spans_apart", defArgs s_spans_apart, defBody s_spans_apart, defScope s_spans_apart, [], []⟩,
  ⟨("any_kind", none), "any_kind", "any_kind", defArgs s_any_kind, defBody s_any_kind, defScope s_any_kind, [], []⟩,
  ⟨("reformed", none), "reformed", "reformed", defArgs s_reformed, defBody s_reformed, defScope s_reformed, [], []⟩,
  ⟨("outmost", none), "outmost", "outmost", defArgs s_outmost, defBody s_outmost, defScope s_outmost, [], []⟩,
  ⟨("formed", none), "formed", "formed", defArgs s_formed, defBody s_formed, defScope s_formed, [], []⟩,
  ⟨("first_beyond", none), "first_beyond", "first_beyond", defArgs s_first_beyond, defBody s_first_beyond, defScope s_first_beyond, [], []⟩,
  ⟨("inner_beyond", none), "inner_beyond", "inner_beyond", defArgs s_inner_beyond, defBody s_inner_beyond, defScope s_inner_beyond, [], []⟩,
  ⟨("within", none), "within", "within", defArgs s_within, defBody s_within, defScope s_within, [], []⟩,
  ⟨("is_name", none), "is_name", "is_name", defArgs s_is_name, defBody s_is_name, defScope s_is_name, [], []⟩,
  ⟨("are_figures", none), "are_figures", "are_figures", defArgs s_are_figures, defBody s_are_figures, defScope s_are_figures, [], []⟩,
  ⟨("read_number", none), "read_number", "read_number", defArgs s_read_number, defBody s_read_number, defScope s_read_number, [], []⟩,
  ⟨("show_number", none), "show_number", "show_number", defArgs s_show_number, defBody s_show_number, defScope s_show_number, [], []⟩,
  ⟨("cut", none), "cut", "cut", defArgs s_cut, defBody s_cut, defScope s_cut, [], []⟩,
  ⟨("inner_of", none), "inner_of", "inner_of", defArgs s_inner_of, defBody s_inner_of, defScope s_inner_of, [], []⟩,
  ⟨("read_end", none), "read_end", "read_end", defArgs s_read_end, defBody s_read_end, defScope s_read_end, [], []⟩,
  ⟨("read_span", none), "read_span", "read_span", defArgs s_read_span, defBody s_read_span, defScope s_read_span, [], []⟩,
  ⟨("Parts", some "__init__"), "__init__", "Parts.__init__", defArgs s_Parts_init, defBody s_Parts_init, defScope s_Parts_init, [], []⟩,
  ⟨("Parts", some "put"), "put", "Parts.put", defArgs s_Parts_put, defBody s_Parts_put, defScope s_Parts_put, [], []⟩,
  ⟨("Parts", some "all_words"), "all_words", "Parts.all_words", defArgs s_Parts_all_words, defBody s_Parts_all_words, defScope s_Parts_all_words, [], []⟩,
  ⟨("Parts", some "formed_by"), "formed_by", "Parts.formed_by", defArgs s_Parts_formed_by, defBody s_Parts_formed_by, defScope s_Parts_formed_by, [], []⟩,
  ⟨("check_names", none), "check_names", "check_names", defArgs s_check_names, defBody s_check_names, defScope s_check_names, [], []⟩,
  ⟨("read_kind", none), "read_kind", "read_kind", defArgs s_read_kind, defBody s_read_kind, defScope s_read_kind, [], []⟩,
  ⟨("show_span", none), "show_span", "show_span", defArgs s_show_span, defBody s_show_span, defScope s_show_span, [], []⟩,
  ⟨("show_kind", none), "show_kind", "show_kind", defArgs s_show_kind, defBody s_show_kind, defScope s_show_kind, [], []⟩,
  ⟨("look_at_names", none), "look_at_names", "look_at_names", defArgs s_look_at_names, defBody s_look_at_names, defScope s_look_at_names, [], []⟩,
  ⟨("in_rings", none), "in_rings", "in_rings", defArgs s_in_rings, defBody s_in_rings, defScope s_in_rings, [], []⟩,
  ⟨("look_for_rings", none), "look_for_rings", "look_for_rings", defArgs s_look_for_rings, defBody s_look_for_rings, defScope s_look_for_rings, [], []⟩,
  ⟨("Web", some "__init__"), "__init__", "Web.__init__", defArgs s_Web_init, defBody s_Web_init, defScope s_Web_init, [], []⟩,
  ⟨("Web", some "names"), "names", "Web.names", defArgs s_Web_names, defBody s_Web_names, defScope s_Web_names, [], []⟩,
  ⟨("Web", some "over"), "over", "Web.over", defArgs s_Web_over, defBody s_Web_over, defScope s_Web_over, [], []⟩,
  ⟨("Web", some "above"), "above", "Web.above", defArgs s_Web_above, defBody s_Web_above, defScope s_Web_above, [], []⟩,
  ⟨("Web", some "beneath"), "beneath", "Web.beneath", defArgs s_Web_beneath, defBody s_Web_beneath, defScope s_Web_beneath, [], []⟩,
  ⟨("Web", some "tops"), "tops", "Web.tops", defArgs s_Web_tops, defBody s_Web_tops, defScope s_Web_tops, [], []⟩,
  ⟨("read_name", none), "read_name", "read_name", defArgs s_read_name, defBody s_read_name, defScope s_read_name, [], []⟩,
  ⟨("read_over", none), "read_over", "read_over", defArgs s_read_over, defBody s_read_over, defScope s_read_over, [], []⟩,
  ⟨("read_tuple", none), "read_tuple", "read_tuple", defArgs s_read_tuple, defBody s_read_tuple, defScope s_read_tuple, [], []⟩,
  ⟨("read_web", none), "read_web", "read_web", defArgs s_read_web, defBody s_read_web, defScope s_read_web, [], []⟩,
  ⟨("show_tuple", none), "show_tuple", "show_tuple", defArgs s_show_tuple, defBody s_show_tuple, defScope s_show_tuple, [], []⟩,
  ⟨("show_web", none), "show_web", "show_web", defArgs s_show_web, defBody s_show_web, defScope s_show_web, [], []⟩,
  ⟨("_law_cell", none), "_law_cell", "_law_cell", defArgs s_Lcell, defBody s_Lcell, defScope s_Lcell, [], []⟩,
  ⟨("_law_take", none), "_law_take", "_law_take", defArgs s_Ltake, defBody s_Ltake, defScope s_Ltake, [], []⟩,
  ⟨("_law_name", none), "_law_name", "_law_name", defArgs s_Lname, defBody s_Lname, defScope s_Lname, [], []⟩,
  ⟨("_law_tuples", none), "_law_tuples", "_law_tuples", defArgs s_Ltuples, defBody s_Ltuples, defScope s_Ltuples, [], []⟩,
  ⟨("_law_ups", none), "_law_ups", "_law_ups", defArgs s_Lups, defBody s_Lups, defScope s_Lups, [], []⟩,
  ⟨("_law_number", none), "_law_number", "_law_number", defArgs s_Lnumber, defBody s_Lnumber, defScope s_Lnumber, [], []⟩,
  ⟨("_law_span", none), "_law_span", "_law_span", defArgs s_Lspan, defBody s_Lspan, defScope s_Lspan, [], []⟩,
  ⟨("_law_part", none), "_law_part", "_law_part", defArgs s_Lpart, defBody s_Lpart, defScope s_Lpart, [], []⟩,
  ⟨("_law_end", none), "_law_end", "_law_end", defArgs s_Lend, defBody s_Lend, defScope s_Lend, [], []⟩,
  ⟨("_law_part_text", none), "_law_part_text", "_law_part_text", defArgs s_Lpart_text, defBody s_Lpart_text, defScope s_Lpart_text, [], []⟩,
  ⟨("_law_text", none), "_law_text", "_law_text", defArgs s_Ltext, defBody s_Ltext, defScope s_Ltext, [], []⟩,
  ⟨("_law_tops", none), "_law_tops", "_law_tops", defArgs s_Ltops, defBody s_Ltops, defScope s_Ltops, [], []⟩,
  ⟨("_law_merged", none), "_law_merged", "_law_merged", defArgs s_Lmerged, defBody s_Lmerged, defScope s_Lmerged, [], []⟩,
  ⟨("_law_covers", none), "_law_covers", "_law_covers", defArgs s_Lcovers, defBody s_Lcovers, defScope s_Lcovers, [], []⟩,
  ⟨("_law_lies", none), "_law_lies", "_law_lies", defArgs s_Llies, defBody s_Llies, defScope s_Llies, [], []⟩,
  ⟨("_law_outer", none), "_law_outer", "_law_outer", defArgs s_Louter, defBody s_Louter, defScope s_Louter, [], []⟩,
  ⟨("_law_kind", none), "_law_kind", "_law_kind", defArgs s_Lkind, defBody s_Lkind, defScope s_Lkind, [], []⟩,
  ⟨("_law_shown", none), "_law_shown", "_law_shown", defArgs s_Lshown, defBody s_Lshown, defScope s_Lshown, [], []⟩,
  ⟨("law", none), "law", "law", defArgs s_law, defBody s_law, defScope s_law, [], []⟩]
def fas : List He.Fa := [
  .glo "has_numbers",
  .glo "greater_low",
  .glo "lesser_high",
  .glo "greater_high",
  .glo "goes_on",
  .glo "spans_formed",
  .glo "spans_met",
  .glo "gaps_of",
  .glo "number_of",
  .glo "spans_apart",
  .glo "any_kind",
  .glo "reformed",
  .glo "outmost",
  .glo "formed",
  .glo "first_beyond",
  .glo "inner_beyond",
  .glo "within",
  .glo "is_name",
  .glo "are_figures",
  .glo "read_number",
  .glo "show_number",
  .glo "cut",
  .glo "inner_of",
  .glo "read_end",
  .glo "read_span",
  .glo "check_names",
  .glo "read_kind",
  .glo "show_span",
  .glo "show_kind",
  .glo "look_at_names",
  .glo "in_rings",
  .glo "look_for_rings",
  .glo "read_name",
  .glo "read_over",
  .glo "read_tuple",
  .glo "read_web",
  .glo "show_tuple",
  .glo "show_web",
  .glo "_law_cell",
  .glo "_law_take",
  .glo "_law_name",
  .glo "_law_tuples",
  .glo "_law_ups",
  .glo "_law_number",
  .glo "_law_span",
  .glo "_law_part",
  .glo "_law_end",
  .glo "_law_part_text",
  .glo "_law_text",
  .glo "_law_tops",
  .glo "_law_merged",
  .glo "_law_covers",
  .glo "_law_lies",
  .glo "_law_outer",
  .glo "_law_kind",
  .glo "_law_shown",
  .glo "law",
  .glo "Parts",
  .glo "Web",
  .glo "ANY",
  .glo "OTHER_WORDS",
  .free "len",
  .free "range",
  .free "sorted",
  .free "set",
  .free "any",
  .free "all",
  .free "tuple",
  .free "list",
  .free "dict",
  .free "str",
  .free "int",
  .free "isinstance",
  .free "max",
  .free "min",
  .free "enumerate",
  .free "repr",
  .int "MOST_LETTERS" 8,
  .int "MOST_FIGURES" 60,
  .int "MOST_ROWS" 3,
  .str "LETTERS" "abcdefghijklmnopqrstuvwxyz",
  .str "FIGURES" "0123456789",
  .cls "Parts",
  .cls "Web",
  .mkr "Parts",
  .mkr "Web",
  .noat "Parts" "whole",
  .noat "Parts" "words",
  .noat "Parts" "stretches",
  .noat "Parts" "within_it",
  .noat "Web" "uppers",
  .meth "Parts" "__init__",
  .meth "Parts" "put",
  .meth "Parts" "all_words",
  .meth "Parts" "formed_by",
  .meth "Web" "__init__",
  .meth "Web" "names",
  .meth "Web" "over",
  .meth "Web" "above",
  .meth "Web" "beneath",
  .meth "Web" "tops"]
def empT (K : PySem.W.Frag) (a : Addr) : Bool := match K.lookup a with
  | some ⟨.type c, _, .seq its _, _⟩ => decide (c = "tuple") && its.isEmpty
  | _ => false
def anyT (K : PySem.W.Frag) : Bool := match K.lookup (He.ga K "ANY") with
  | some ⟨.type c, _, .seq its _, _⟩ => decide (c = "tuple") && (match its.toList with
    | [.bool true, .ref a, .ref b, .ref d] => empT K a && (empT K b && empT K d)
    | _ => false)
  | _ => false
def othW : List He.Dv := [.str "any", .str "none", .str "blank", .str "new", .str "on"]
def exB (K : PySem.W.Frag) : Bool := He.tupB K "OTHER_WORDS" othW && anyT K
abbrev RR : PySem.W.OpenRow := PySem.W.OpenLaw.row PySem.Challenge.rw_fitmost_k32_whole_kinds_written
/-! the part of the heap that is looked at: the module's names, their codes, the classes' defs and codes -/
def kidV : Value → List Addr
  | .ref a => [a]
  | _ => []
def kids (g : Addr → Option Obj) (a : Addr) : List Addr := match g a with
  | some ⟨_, _, .func fd, _⟩ => kidV fd.code
  | some ⟨_, _, .cls cd, _⟩ => [cd.ns]
  | some ⟨_, _, .dict es _, _⟩ => es.toList.flatMap fun e => kidV e.val
  | some ⟨_, _, .seq its _, _⟩ => its.toList.flatMap kidV
  | _ => []
def lev (g : Addr → Option Obj) : Nat → List Addr → List Addr
  | 0, as => as
  | n + 1, as => as ++ lev g n (as.flatMap (kids g))
def asY (g : Addr → Option Obj) : List Addr := lev g 4 [mainGlobals]
abbrev AlY : Type := He.AlD × Bool
def obsY (g : Addr → Option Obj) : AlY := (He.obsD fas dfs (He.frG g (asY g)), exB (He.frG g (asY g)))
structure SaysY (K : PySem.W.Frag) : Prop where
  d : He.SaysD fas dfs K
  more : exB K = true
def hkx : PySem.W.Hook where
  α := AlY
  obs := fun s => obsY s.heap.get?
  val := fun _ => (He.valD dfs, true)
  says := fun _ h => ∃ K : PySem.W.Frag, K.In h ∧ SaysY K
  of := fun _ _ e => ⟨_, He.frG_in, ⟨congrArg Prod.fst e, congrArg Prod.snd e⟩⟩
  keeps := fun _ _ _ ⟨K, hK, c⟩ k => ⟨K, PySem.W.Frag.In.keeps hK k, c⟩
def obx (s : PySem.W.SharedT) : AlY := obsY (HandSHeadRun.getT s)
theorem obx_eq (s : PySem.W.SharedT) : obx s = hkx.obs s.abs := by
  have e : HandSHeadRun.getT s = s.abs.heap.get? := funext (HandSHeadRun.getT_eq s)
  show obsY (HandSHeadRun.getT s) = obsY s.abs.heap.get?
  rw [e]
def loo0 : List PySem.Str := ["_wall", "FitError", "NoName", "Taken", "NoKind", "Ring", "NoText", "has_numbers", "greater_low", "lesser_high", "greater_high", "goes_on", "spans_formed", "spans_met", "gaps_of", "number_of", "spans_apart", "ANY", "any_kind", "reformed", "outmost", "formed", "first_beyond", "inner_beyond", "within", "LETTERS", "MOST_LETTERS", "OTHER_WORDS", "is_name", "FIGURES"]
def loo1 : List PySem.Str := ["MOST_FIGURES", "are_figures", "read_number", "show_number", "MOST_ROWS", "cut", "inner_of", "read_end", "read_span", "Parts", "check_names", "read_kind", "show_span", "show_kind", "look_at_names", "in_rings", "look_for_rings", "Web", "read_name", "read_over", "read_tuple", "read_web", "show_tuple", "show_web", "_law_cell", "_law_take", "_law_name", "_law_tuples", "_law_ups", "_law_number"]
def loo2 : List PySem.Str := ["_law_span", "_law_part", "_law_end", "_law_part_text", "_law_text", "_law_tops", "_law_merged", "_law_covers", "_law_lies", "_law_outer", "_law_kind", "_law_shown"]
def loo : List PySem.Str := loo0 ++ loo1 ++ loo2
theorem runx (w : World) : HandSHeadRun.RunEq RR (PySem.W.view RR.prog [81]) hkx obx 6000 loo w := by
  intro os
  kernel_rfl
end Fm
set_option maxHeartbeats 4000000
/-! FmBase: data in the abstract heap, what a reading comes to, defs by name. -/
namespace Fm
open PySem PySem.Spec PyProof.Rows L2

/-! ### heaps -/
theorem Same.new {H : Hp} {p : Addr} {o : HO} (h : H p = none) : Same H (upd H p o) := fun b u e => by
  rw [upd_ne (ne_of_none e h)]; exact e
theorem Same.mut {H H' : Hp} {p : Addr} {o : HO} (e : Same H H') (h : H p = none) : Same H (upd H' p o) := fun b u q => by
  rw [upd_ne (ne_of_none q h)]; exact e b u q
theorem Same.rd {H H' : Hp} {a : Addr} {u : HO} (e : Same H H') (h : Rd H a u) : Rd H' a u := by
  rcases h with h | ⟨o, h⟩
  · exact .inl (e a _ h)
  · exact .inr ⟨o, e a _ h⟩
theorem Same.lst {K : PySem.W.Frag} {H H' : Hp} {a : Addr} {xs : List V} (e : Same H H') (h : SqL K H a xs) : SqL K H' a xs := e.seq h
theorem Same.tup {K : PySem.W.Frag} {H H' : Hp} {a : Addr} {xs : List V} (e : Same H H') (h : SqT K H a xs) : SqT K H' a xs := by
  rcases h with h | h
  · exact .inl (Same.rd e h)
  · exact .inr h

/-! ### data -/
mutual
theorem Dp.same {K : PySem.W.Frag} {H H' : Hp} (e : Same H H') : ∀ (d : PyData) (v : V), Dp K H v d → Dp K H' v d
  | .none, _, h => by cases h; exact .non
  | .bool _, _, h => by cases h; exact .bl _
  | .int _, _, h => by cases h; exact .int _
  | .str _, _, h => by cases h; exact .str _
  | .list ds, _, h => by
    cases h with
    | lst a b => exact .lst (Same.lst e a) (DpAll.same e ds _ b)
  | .tuple ds, _, h => by
    cases h with
    | tup a b => exact .tup (Same.tup e a) (DpAll.same e ds _ b)
  | .dict _, _, h => by cases h
theorem DpAll.same {K : PySem.W.Frag} {H H' : Hp} (e : Same H H') : ∀ (ds : List PyData) (vs : List V), DpAll K H vs ds → DpAll K H' vs ds
  | [], _, h => by cases h; exact .nil
  | d :: ds, _, h => by
    cases h with
    | cons a b => exact .cons (Dp.same e d _ a) (DpAll.same e ds _ b)
end
section
variable {K : PySem.W.Frag} {H H' : Hp} {v : V} {d : PyData} {ds : List PyData} {vs : List V}
theorem dsame (h : Dp K H v d) (e : Same H H') : Dp K H' v d := Dp.same e d v h
theorem dasame (h : DpAll K H vs ds) (e : Same H H') : DpAll K H' vs ds := DpAll.same e ds vs h
theorem dp_non (h : Dp K H v .none) : v = .non := by cases h; rfl
theorem dp_bl {b : Bool} (h : Dp K H v (.bool b)) : v = .bl b := by cases h; rfl
theorem dp_int {i : Int} (h : Dp K H v (.int i)) : v = .int i := by cases h; rfl
theorem dp_str {x : Str} (h : Dp K H v (.str x)) : v = .str x := by cases h; rfl
theorem dp_tup (h : Dp K H v (.tuple ds)) : ∃ a xs, v = .ref a ∧ SqT K H a xs ∧ DpAll K H xs ds := by
  cases h with
  | tup a b => exact ⟨_, _, rfl, a, b⟩
theorem dp_lst (h : Dp K H v (.list ds)) : ∃ a xs, v = .ref a ∧ SqL K H a xs ∧ DpAll K H xs ds := by
  cases h with
  | lst a b => exact ⟨_, _, rfl, a, b⟩
theorem dalen : ∀ {vs : List V} {ds : List PyData}, DpAll K H vs ds → vs.length = ds.length
  | _, _, .nil => rfl
  | _, _, .cons _ t => by rw [List.length_cons, List.length_cons, dalen t]
theorem daat : ∀ {vs : List V} {ds : List PyData} {i : Nat} {d : PyData}, DpAll K H vs ds → ds[i]? = some d → ∃ v, vs[i]? = some v ∧ Dp K H v d
  | _, _, i, _, .nil, e => by simp at e
  | _, _, 0, d, .cons r _, e => by simp at e; subst e; exact ⟨_, rfl, r⟩
  | _, _, i + 1, d, .cons _ t, e => by
    obtain ⟨v, h1, h2⟩ := daat (i := i) (d := d) t (by simpa using e)
    exact ⟨v, by simpa using h1, h2⟩
theorem daback : ∀ {vs : List V} {ds : List PyData} {i : Nat} {v : V}, DpAll K H vs ds → vs[i]? = some v → ∃ d, ds[i]? = some d ∧ Dp K H v d
  | _, _, i, _, .nil, e => by simp at e
  | _, _, 0, v, .cons r _, e => by simp at e; subst e; exact ⟨_, rfl, r⟩
  | _, _, i + 1, v, .cons _ t, e => by
    obtain ⟨d, h1, h2⟩ := daback (i := i) (v := v) t (by simpa using e)
    exact ⟨d, by simpa using h1, h2⟩
theorem daapp : ∀ {vs ws : List V} {ds es : List PyData}, DpAll K H vs ds → DpAll K H ws es → DpAll K H (vs ++ ws) (ds ++ es)
  | _, _, _, _, .nil, s => s
  | _, _, _, _, .cons r t, s => .cons r (daapp t s)
theorem darev : ∀ {vs : List V} {ds : List PyData}, DpAll K H vs ds → DpAll K H vs.reverse ds.reverse
  | _, _, .nil => .nil
  | _, _, .cons a t => by
    rw [List.reverse_cons, List.reverse_cons]
    exact daapp (darev t) (.cons a .nil)
theorem dasplit : ∀ {ds : List PyData} {e : PyData} {ws : List V}, DpAll K H ws (ds ++ [e]) → ∃ us v, ws = us ++ [v] ∧ DpAll K H us ds ∧ Dp K H v e
  | [], e, ws, h => by
    cases h with
    | cons a t => cases t; exact ⟨[], _, rfl, .nil, a⟩
  | d :: ds, e, ws, h => by
    cases h with
    | cons a t =>
      obtain ⟨us, v, rfl, b, c⟩ := dasplit t
      exact ⟨_ :: us, v, rfl, .cons a b, c⟩
theorem daone (h : Dp K H v d) : DpAll K H [v] [d] := .cons h .nil
theorem dpall1 (h : DpAll K H vs [d]) : ∃ x, vs = [x] ∧ Dp K H x d := by
  cases h with
  | cons a t => cases t; exact ⟨_, rfl, a⟩
theorem dpall2 {d e : PyData} (h : DpAll K H vs [d, e]) : ∃ x y, vs = [x, y] ∧ Dp K H x d ∧ Dp K H y e := by
  cases h with
  | cons a t => obtain ⟨y, rfl, b⟩ := dpall1 t; exact ⟨_, _, rfl, a, b⟩
theorem dpall3 {d e f : PyData} (h : DpAll K H vs [d, e, f]) : ∃ x y z, vs = [x, y, z] ∧ Dp K H x d ∧ Dp K H y e ∧ Dp K H z f := by
  cases h with
  | cons a t => obtain ⟨y, z, rfl, b, c⟩ := dpall2 t; exact ⟨_, _, _, rfl, a, b, c⟩
theorem dpall4 {d e f g : PyData} (h : DpAll K H vs [d, e, f, g]) : ∃ x y z w, vs = [x, y, z, w] ∧ Dp K H x d ∧ Dp K H y e ∧ Dp K H z f ∧ Dp K H w g := by
  cases h with
  | cons a t => obtain ⟨y, z, w, rfl, b, c, k⟩ := dpall3 t; exact ⟨_, _, _, _, rfl, a, b, c, k⟩
theorem dpall_strs : ∀ {vs : List V} {xs : List Str}, DpAll K H vs (xs.map .str) → vs = xs.map .str
  | _, [], h => by cases h; rfl
  | _, x :: xs, h => by
    rw [List.map_cons] at h
    cases h with
    | cons a t => rw [dp_str a, dpall_strs t, List.map_cons]
theorem dpall_of_strs : ∀ xs : List Str, DpAll K H (xs.map V.str) (xs.map PyData.str)
  | [] => .nil
  | x :: xs => .cons (.str x) (dpall_of_strs xs)
theorem dpall_bls : ∀ {vs : List V} {xs : List Bool}, DpAll K H vs (xs.map .bool) → vs = xs.map .bl
  | _, [], h => by cases h; rfl
  | _, x :: xs, h => by
    rw [List.map_cons] at h
    cases h with
    | cons a t => rw [dp_bl a, dpall_bls t, List.map_cons]
theorem dpall_ints : ∀ {vs : List V} {xs : List Int}, DpAll K H vs (xs.map .int) → vs = xs.map .int
  | _, [], h => by cases h; rfl
  | _, x :: xs, h => by
    rw [List.map_cons] at h
    cases h with
    | cons a t => rw [dp_int a, dpall_ints t, List.map_cons]
theorem dp_newT {p : Addr} (h : DpAll K H' vs ds) (e : Same H' (upd H' p (.tup vs))) : Dp K (upd H' p (.tup vs)) (.ref p) (.tuple ds) := .tup (.inl (.inl upd_same)) (dasame h e)
end

/-! ### defs by name -/
section
variable {P : Program} {w : World} {K : PySem.W.Frag} {mg : Str → Option Value} {base : Heap}
/-- the def st stands under its name -/
structure At (K : PySem.W.Frag) (mg : Str → Option Value) (x : Str) (st : Stmt) : Prop where
  ex : ∃ (f : Addr) (fd : FuncData), FunD K x x (defArgs st) (defBody st) (defScope st) [] [] f fd ∧ mg x = some (.ref f)
/-- a def under its name that keeps its promise -/
structure Def (P : Program) (w : World) (K : PySem.W.Frag) (mg : Str → Option Value) (base : Heap) (k : Nat) (x : Str) (ps : List Str) (sp : Sp) : Prop where
  ex : ∃ (f : Addr) (fd : FuncData), FnOk P w K mg base CX0 k f fd ps sp ∧ mg x = some (.ref f) ∧ PySem.W.keepIn K (.ref f) = true ∧ Binds K fd ps []
theorem Def.mono {j k : Nat} {x : Str} {ps : List Str} {sp : Sp} (D : Def P w K mg base j x ps sp) (h : j ≤ k) : Def P w K mg base k x ps sp := by
  obtain ⟨f, fd, a, b, c, d⟩ := D.ex
  exact ⟨f, fd, a.mono h, b, c, d⟩
theorem def_of {x : Str} {st : Stmt} {N ps : List Str} {k : Nat} {sp : Sp} (A : At K mg x st) (S : FnScope N ps (defScope st))
    (bd : ∀ (kV doc pm : Value) (an : Option Addr) (cdv ct : Value) (us : List Value), us.length = ps.length → bindArgs (PySem.W.fnOf x x (defArgs st) (defBody st) (defScope st) .none kV doc pm an cdv ct) ⟨us, []⟩ = pure (ps.zip us))
    (len : ∀ vs H Q E, sp vs H Q E → vs.length = ps.length)
    (hbody : ∀ (f : Addr) (cdv : Value) (A : Around) (outer : List Env) (s : Shared) (H : Hp) (vs : List V) (Q : VK) (E : XK), Room k (A.deeper (envOfC x (defScope st) s.heap.objs.size f cdv)) → sp vs H Q E →
      ∃ t, PSs (cxOf CX0 P w K mg base N x (defScope st) f cdv A outer s H E).nox (defBody st) t ∧ t { nx := fun _ H' => Q .non H', rt := Q } (start N vs) H) : Def P w K mg base (k + 1) x ps sp := by
  obtain ⟨f, fd, F, g⟩ := A.ex
  refine ⟨f, fd, F.ok S len fun cdv A outer s H vs Q E hr h => ?_, g, F.kp, F.bindsN bd⟩
  obtain ⟨t, h1, h2⟩ := hbody f cdv A outer s H vs Q E hr h
  exact ⟨t, PSs.nox h1, h2⟩
/-- a call of such a def -/
theorem pe_def {X : Cx} {k k' : Nat} {x : Str} {ps : List Str} {sp : Sp} {p pos : Pos} {e : Expr} {es : List Expr} {t : TA} (D : Def X.prog X.w X.K X.mg X.base k x ps sp) (hr : Room k' X.A) (hk : k ≤ k') (hg : Gl X x)
    (ha : PA X (e :: es) t) (hdb : (x == ("__debug__" : Str)) = false := by decide) (he : starEach (e :: es) X.env = (false, eval e X.env) :: starEach es X.env := by rfl) (hpl : (backTo pos (starEach es X.env)).any (·.1) = false := by rfl) :
    PE X (.Call (.Name x p) (e :: es) [] pos) (tCall sp [] E0 t) := by
  obtain ⟨f, fd, F, hm, hk', hb⟩ := D.ex
  exact pe_call F (hr.mono hk) hg hm hk' hb .nil pass0 ha hdb he hpl
theorem pe_def0 {X : Cx} {k k' : Nat} {x : Str} {ps : List Str} {sp : Sp} {p pos : Pos} (D : Def X.prog X.w X.K X.mg X.base k x ps sp) (hr : Room k' X.A) (hk : k ≤ k') (hg : Gl X x) (hdb : (x == ("__debug__" : Str)) = false := by decide) :
    PE X (.Call (.Name x p) [] [] pos) (tCall sp [] E0 tNil) := by
  obtain ⟨f, fd, F, hm, hk', hb⟩ := D.ex
  exact pe_call0 F (hr.mono hk) hg hm hk' hb .nil pass0 hdb
end

end Fm
set_option maxHeartbeats 4000000
/-! FmR1: max and min of two data; sorted of a list of data. -/
namespace Fm
open PySem PySem.Spec PyProof.Rows L2
section
variable {prog : Program} {w : World} {A : Around} {E : Value → Shared → Prop} {s : Shared}
theorem alike_two {x y : PyData} (h1 : PySem.W.alike x x = true) (h2 : PySem.W.alike x y = true) (h3 : PySem.W.alike y x = true) (h4 : PySem.W.alike y y = true) (n1 : x ≠ .none) (n2 : y ≠ .none) : PySem.W.AlikeAll [x, y] := by
  refine ⟨fun a ha b hb => ?_, fun a ha => ?_⟩
  · rcases List.mem_cons.mp ha with rfl | ha
    · rcases List.mem_cons.mp hb with rfl | hb
      · exact h1
      · rw [List.mem_singleton.mp hb]; exact h2
    · rw [List.mem_singleton.mp ha]
      rcases List.mem_cons.mp hb with rfl | hb
      · exact h3
      · rw [List.mem_singleton.mp hb]; exact h4
  · rcases List.mem_cons.mp ha with rfl | ha
    · exact n1
    · rw [List.mem_singleton.mp ha]; exact n2
/-- the pair that max, min lay for two values -/
theorem two_reads {a b : Value} {x y : PyData} {as bs : List Addr} (ra : Reads s.heap a x as) (rb : Reads s.heap b y bs) :
    ReadsAll (s.heap.push { cls := .type "tuple", data := .seq #[a, b] }) (#[a, b] : Array Value).toList [x, y] (as ++ (bs ++ [])) := by
  have k : ∀ c o, s.heap.get? c = some o → (s.heap.push { cls := .type "tuple", data := .seq #[a, b] }).get? c = some o := fun c o e => Heap.get?_push_of_some _ e
  exact .cons (PySem.W.reads_keeps k ra) (.cons (PySem.W.reads_keeps k rb) .nil)
theorem best_two (bt : Nat → Nat → Bool) : argBest bt 1 = if bt 1 0 = true then 1 else 0 := by
  show (if bt 1 0 = true then 1 else 0) = _
  rfl
theorem max2_data {a b : Value} {x y : PyData} {as bs : List Addr} {Q : Value → Shared → Prop} (hh : A.handled = none) (ra : Reads s.heap a x as) (rb : Reads s.heap b y bs) (al : PySem.W.AlikeAll [x, y])
    (hu : A.units + 1 + PyData.depthAll [x, y] < cLine) (h : ∀ h' tk, (∀ c o, s.heap.get? c = some o → h'.get? c = some o) → Q (if PySem.W.dataLt x y = true then b else a) { s with heap := h', toks := tk }) :
    wpAny (model prog w) A (call (.builtin "max") [a, b]) Q E s := by
  refine call_function_tree F.kind_max F.plain_max F.entry_max (F.args_max2 _ _) ?_
  refine wpAny_bind (wpAny_of_eq (show Builtin.Builtins.bindParams "max" ["key", "default"] 0 ⟨[], []⟩ = pure [none, none] from rfl) ?_)
  refine wpAny_bind (m := newTuple [a, b]) (wpAny_newObj_type ?_)
  have hT : (s.heap.push { cls := .type "tuple", data := .seq #[a, b] }).IsTuple s.heap.objs.size #[a, b] := ⟨_, Heap.get?_push_size _ rfl, rfl, 0, rfl⟩
  have rr := two_reads ra rb
  refine wpAny_bind (PySem.W.iter_tupleW (A := A.in1) (s := { s with heap := s.heap.push { cls := .type "tuple", data := .seq #[a, b] } }) hh hT fun s2 e W st hfp hw hk => ?_)
  refine wpAny_bind (wpAny_newObj_type ?_)
  have hnm : (toString "max" ++ toString ".loop" : String) = "max.loop" := by decide
  rw [hnm]
  refine wpAny_pure ⟨plainId_quiet F.plain_max_loop _, codeAny_max_loop_firstH W (s.heap.push { cls := .type "tuple", data := .seq #[a, b] }) hw _ (PySem.W.cmpIn_gt (A := A.in1) (s := { s with heap := s.heap.push { cls := .type "tuple", data := .seq #[a, b] } }) rr al hu) s2.heap.objs.size
    (fun hm => Nat.lt_irrefl _ (hfp _ hm)) (fresh_in hk) _ (Nat.succ_pos 1) (fun c o q => Heap.get?_push_of_some _ (hk c o q)) (W.frame 0 s2 _ s2.toks st (Nat.le_refl _) fun c _ o q => Heap.get?_push_of_some _ q) (Heap.get?_push_size _ rfl) fun v s' hP hm => ?_⟩
  have hm' := Moved.drop_new (tk := s2.toks) hm (Nat.le_refl _)
  obtain ⟨h', tk, rfl, k2⟩ := PySem.W.moved_old e rfl hm'
  have hP' : (#[a, b] : Array Value)[argBest (fun i j => PySem.W.dataLt ([x, y].getD j .none) ([x, y].getD i .none)) 1]? = some v := hP
  rw [best_two] at hP'
  have ev : v = if PySem.W.dataLt x y = true then b else a := by
    by_cases c : PySem.W.dataLt x y = true
    · rw [if_pos c]
      have c' : PySem.W.dataLt ([x, y].getD 0 .none) ([x, y].getD 1 .none) = true := c
      rw [if_pos c'] at hP'
      exact (Option.some.inj hP').symm
    · rw [if_neg c]
      have c' : ¬ PySem.W.dataLt ([x, y].getD 0 .none) ([x, y].getD 1 .none) = true := c
      rw [if_neg c'] at hP'
      exact (Option.some.inj hP').symm
  rw [ev]
  exact h h' tk fun c o q => k2 c o (Heap.get?_push_of_some _ q)
theorem min2_data {a b : Value} {x y : PyData} {as bs : List Addr} {Q : Value → Shared → Prop} (hh : A.handled = none) (ra : Reads s.heap a x as) (rb : Reads s.heap b y bs) (al : PySem.W.AlikeAll [x, y])
    (hu : A.units + 1 + PyData.depthAll [x, y] < cLine) (h : ∀ h' tk, (∀ c o, s.heap.get? c = some o → h'.get? c = some o) → Q (if PySem.W.dataLt y x = true then b else a) { s with heap := h', toks := tk }) :
    wpAny (model prog w) A (call (.builtin "min") [a, b]) Q E s := by
  refine call_function_tree F.kind_min F.plain_min F.entry_min (F.args_min2 _ _) ?_
  refine wpAny_bind (wpAny_of_eq (show Builtin.Builtins.bindParams "min" ["key", "default"] 0 ⟨[], []⟩ = pure [none, none] from rfl) ?_)
  refine wpAny_bind (m := newTuple [a, b]) (wpAny_newObj_type ?_)
  have hT : (s.heap.push { cls := .type "tuple", data := .seq #[a, b] }).IsTuple s.heap.objs.size #[a, b] := ⟨_, Heap.get?_push_size _ rfl, rfl, 0, rfl⟩
  have rr := two_reads ra rb
  refine wpAny_bind (PySem.W.iter_tupleW (A := A.in1) (s := { s with heap := s.heap.push { cls := .type "tuple", data := .seq #[a, b] } }) hh hT fun s2 e W st hfp hw hk => ?_)
  refine wpAny_bind (wpAny_newObj_type ?_)
  have hnm : (toString "min" ++ toString ".loop" : String) = "min.loop" := by decide
  rw [hnm]
  refine wpAny_pure ⟨plainId_quiet F.plain_min_loop _, codeAny_min_loop_firstH W (s.heap.push { cls := .type "tuple", data := .seq #[a, b] }) hw _ (PySem.W.cmpIn_lt (A := A.in1) (s := { s with heap := s.heap.push { cls := .type "tuple", data := .seq #[a, b] } }) rr al hu) s2.heap.objs.size
    (fun hm => Nat.lt_irrefl _ (hfp _ hm)) (fresh_in hk) _ (Nat.succ_pos 1) (fun c o q => Heap.get?_push_of_some _ (hk c o q)) (W.frame 0 s2 _ s2.toks st (Nat.le_refl _) fun c _ o q => Heap.get?_push_of_some _ q) (Heap.get?_push_size _ rfl) fun v s' hP hm => ?_⟩
  have hm' := Moved.drop_new (tk := s2.toks) hm (Nat.le_refl _)
  obtain ⟨h', tk, rfl, k2⟩ := PySem.W.moved_old e rfl hm'
  have hP' : (#[a, b] : Array Value)[argBest (fun i j => PySem.W.dataLt ([x, y].getD i .none) ([x, y].getD j .none)) 1]? = some v := hP
  rw [best_two] at hP'
  have ev : v = if PySem.W.dataLt y x = true then b else a := by
    by_cases c : PySem.W.dataLt y x = true
    · rw [if_pos c]
      have c' : PySem.W.dataLt ([x, y].getD 1 .none) ([x, y].getD 0 .none) = true := c
      rw [if_pos c'] at hP'
      exact (Option.some.inj hP').symm
    · rw [if_neg c]
      have c' : ¬ PySem.W.dataLt ([x, y].getD 1 .none) ([x, y].getD 0 .none) = true := c
      rw [if_neg c'] at hP'
      exact (Option.some.inj hP').symm
  rw [ev]
  exact h h' tk fun c o q => k2 c o (Heap.get?_push_of_some _ q)
end
/-! ### over the layer -/
section
variable {X : Cx}
/-- two data that can be compared, shallow ones -/
structure Cmp2 (d e : PyData) : Prop where
  al : PySem.W.AlikeAll [d, e]
  dp : PyData.depthAll [d, e] ≤ 30
def rMaxD (K : PySem.W.Frag) : List V → Hp → VK → Prop := fun vs H Q => ∃ x y d e, vs = [x, y] ∧ Dp K H x d ∧ Dp K H y e ∧ Cmp2 d e ∧ Q (if PySem.W.dataLt d e = true then y else x) H
def rMinD (K : PySem.W.Frag) : List V → Hp → VK → Prop := fun vs H Q => ∃ x y d e, vs = [x, y] ∧ Dp K H x d ∧ Dp K H y e ∧ Cmp2 d e ∧ Q (if PySem.W.dataLt e d = true then y else x) H
theorem call_maxD (hc : X.calm = true) (hu : X.A.units + 64 < cLine) : CallR X (.builtin "max") (rMaxD X.K) := by
  intro pins s σ H xs us Q I r h
  obtain ⟨x, y, d, e, rfl, hx, hy, c, q⟩ := h
  obtain ⟨u, v, rfl, ru, rv⟩ := vals2 r
  obtain ⟨as, ra⟩ := Dp.reads I d x u hx ru
  obtain ⟨bs, rb⟩ := Dp.reads I e y v hy rv
  refine max2_data (I.ok.hd hc) ra rb c.al (by have := c.dp; omega) fun h' tk k => ⟨_, H, I.kept k, ?_, q⟩
  split
  · exact rv
  · exact ru
theorem call_minD (hc : X.calm = true) (hu : X.A.units + 64 < cLine) : CallR X (.builtin "min") (rMinD X.K) := by
  intro pins s σ H xs us Q I r h
  obtain ⟨x, y, d, e, rfl, hx, hy, c, q⟩ := h
  obtain ⟨u, v, rfl, ru, rv⟩ := vals2 r
  obtain ⟨as, ra⟩ := Dp.reads I d x u hx ru
  obtain ⟨bs, rb⟩ := Dp.reads I e y v hy rv
  refine min2_data (I.ok.hd hc) ra rb c.al (by have := c.dp; omega) fun h' tk k => ⟨_, H, I.kept k, ?_, q⟩
  split
  · exact rv
  · exact ru
end
/-! ### sorted(xs), xs a list of data -/
theorem each_of_dp {K : PySem.W.Frag} {H : Hp} : ∀ {xs : List V} {ds : List PyData} {us : List Value}, DpAll K H xs ds → Vals xs us → PySem.W.EachIs (fun u (b : V × PyData) => RelV b.1 u ∧ Dp K H b.1 b.2) us (xs.zip ds)
  | _, _, _, .nil, .nil => .nil
  | _, _, _, .cons a t, .cons r q => .cons ⟨r, a⟩ (each_of_dp t q)
theorem zip_snd {xs : List V} {ds : List PyData} (h : xs.length = ds.length) : (xs.zip ds).map Prod.snd = ds := List.map_snd_zip (Nat.le_of_eq h.symm)
theorem vals_of_each {K : PySem.W.Frag} {H : Hp} : ∀ {us : List Value} {bs : List (V × PyData)}, PySem.W.EachIs (fun u (b : V × PyData) => RelV b.1 u ∧ Dp K H b.1 b.2) us bs → Vals (bs.map Prod.fst) us ∧ DpAll K H (bs.map Prod.fst) (bs.map Prod.snd)
  | _, _, .nil => ⟨.nil, .nil⟩
  | _, _, .cons r t => ⟨.cons r.1 (vals_of_each t).1, .cons r.2 (vals_of_each t).2⟩
structure Srtb (ds : List PyData) : Prop where
  al : PySem.W.AllAlike ds
  so : PySem.W.Sortable ds
  few : ds.length ≤ 100000
  dp : ∀ d ∈ ds, d.depth ≤ 30
/-- the data in Python's order -/
def srt (ds : List PyData) : List PyData := ds.mergeSort (PySem.W.dataLe false id)
theorem srt_len (ds : List PyData) : (srt ds).length = ds.length := List.length_mergeSort ds
def rSortD (K : PySem.W.Frag) : List V → Hp → VK → Prop := fun vs H Q => ∃ (G : Hp) (a : Addr) (xs : List V) (ds : List PyData), vs = [.ref a] ∧ Same G H ∧ SqL K H a xs ∧ DpAll K G xs ds ∧ Srtb ds ∧
  ∀ (ys : List V) (p : Addr), DpAll K G ys (srt ds) → H p = none → Q (.ref p) (upd H p (.lst ys))
section
variable {X : Cx}
theorem cr_sortD (hu : X.A.units + 64 < cLine) : CallR X (.builtin "sorted") (rSortD X.K) := by
  intro pins s σ H vs us Q I r h
  obtain ⟨G, a, xs, ds, rfl, sg, hs, hd, S, q⟩ := h
  obtain ⟨its, rv, hl, hz⟩ := I.list hs
  rw [Vals.ref1 r]
  have hle := dalen hd
  have e1 := each_of_dp hd rv
  have hm : (xs.zip ds).map Prod.snd = ds := zip_snd hle
  have hbl : (xs.zip ds).length = ds.length := by rw [List.length_zip]; omega
  have hsl : ds.length ≤ sizeLine := Nat.le_trans S.few (by decide)
  refine PySem.W.sorted_data (enc := Prod.snd) (bs := xs.zip ds) (vs := its) hl.isList e1 (e1.mono fun u b hb => ?_) (by rw [hm]; exact S.al) (by rw [hm]; exact S.so) (by rw [hbl]; exact hsl) (fun b hb => ?_) fun out ho eo => ?_
  · exact Dp.reads I b.2 b.1 u (dsame hb.2 sg) hb.1
  · have hb2 : b.2 ∈ ds := by rw [← hm]; exact List.mem_map.mpr ⟨b, hb, rfl⟩
    have := S.dp _ hb2
    omega
  · obtain ⟨ep, he'⟩ := PyProof.Rows.sortedAll_at s.heap its out.toArray
    obtain ⟨v1, v2⟩ := vals_of_each eo
    have es : ((xs.zip ds).mergeSort (PySem.W.dataLe false Prod.snd)).map Prod.snd = srt ds := by
      have e0 := PySem.W.sort_maps (r := PySem.W.dataLe false (Prod.snd : V × PyData → PyData)) (s := PySem.W.dataLe false id) (l := xs.zip ds) Prod.snd fun _ _ _ _ => rfl
      rw [hm] at e0
      exact e0
    rw [es] at v2
    have hlen : (((xs.zip ds).mergeSort (PySem.W.dataLe false Prod.snd)).map Prod.fst).length ≤ sizeLine := by rw [dalen v2, srt_len]; exact hsl
    exact ⟨.ref _, upd H (s.heap.objs.size + 1) (.lst _), I.laid (t' := s.toks) (fun _ _ => PyProof.Rows.sortedAll_old) (Nat.le_succ _) ⟨hlen, out, ep, v1, he'⟩, rfl, q _ _ v2 (I.hok.fresh (Nat.le_succ _))⟩
end
end Fm
set_option maxHeartbeats 4000000
/-! FmR2: repr of data. -/
namespace Fm
open PySem PySem.Spec PyProof.Rows L2
/-- a tuple that can be shown -/
structure Shw (d : PyData) : Prop where
  disp : isDisplay d = true
  shw : d.showable = true
  nod : d.hasDict = false
  dp : d.depth ≤ 30
  len : d.shown.length ≤ sizeLine
def rRepr (K : PySem.W.Frag) : List V → Hp → VK → Prop := fun vs H Q => ∃ x d, vs = [x] ∧ Dp K H x d ∧ Shw d ∧ Q (.str d.shown) H
section
variable {X : Cx}
theorem cr_repr (hg : X.A.guards = some []) (hu : X.A.units + 64 < cLine) : CallR X (.builtin "repr") (rRepr X.K) := by
  intro pins s σ H xs us Q I r h
  obtain ⟨x, d, rfl, hx, S, q⟩ := h
  obtain ⟨u, rfl, ru⟩ := vals1 r
  obtain ⟨as, ra⟩ := Dp.reads I d x u hx ru
  obtain ⟨a, rfl⟩ := isRef_of_reads ra S.disp
  have hd := S.dp
  exact repr_of_reads' ra S.shw (PyData.noDict_hsm S.nod) hg (by omega) (fun _ _ e => e) (fun h' t tk k => ⟨.str d.shown, H, I.kept k, ⟨t, rfl⟩, q⟩) S.len
end
end Fm
set_option maxHeartbeats 4000000
/-! FmR3: for at, sign in enumerate(text). -/
namespace Fm
open PySem PySem.Spec PyProof.Rows L2
def ItES (x : Str) : It where
  go := fun i _ => i < x.cps.size
  yld := fun i H v H' => ∃ T c, v = .ref T ∧ H T = none ∧ H' = upd H T (.tup [.int (i : Nat), .str ⟨#[c]⟩]) ∧ x.cps[i]? = some c
  stop := fun i _ => i = x.cps.size
theorem drawsS {prog : Program} {w : World} {A : Around} (hh : A.handled = none) (it : Addr) (x : Str) (t : Tok) :
    Draws prog w A it [it] x.cps.size (fun i v => ∃ c u, x.cps[i]? = some c ∧ v = .str ⟨#[c]⟩ u) (fun i h => h.IsStrIter it (strIterType x) x t i) := by
  unfold strIterType
  split
  · exact Draws.strAscii hh it x t
  · exact Draws.strWide hh it x t
/-- where the enumerator at e, over the sign iterator at it, stands before turn i -/
structure EnS (e it : Addr) (x : Str) (t : Tok) (i : Nat) (h : Heap) : Prop where
  en : ∃ old, IsEnum h e it ((i : Nat) : Int) old
  si : h.IsStrIter it (strIterType x) x t i
  ne : e ≠ it
theorem two_mem {b e it : Addr} (h : b ∈ [e, it]) : b = e ∨ b = it := by simpa using h
theorem turn_enS {P : Program} {w : World} {K : PySem.W.Frag} {elts : List Expr} {kk : Nat} {tpos : Pos} (x : Str) (t : Tok) (e it : Addr) :
    Turn P w K (.Tuple elts kk tpos) (ItES x) [e, it] e (EnS e it x t) where
  mem := List.mem_cons_self
  obj := fun i h S b hb => by
    rcases two_mem hb with rfl | rfl
    · obtain ⟨old, he⟩ := S.en
      exact ⟨_, he, fun v q => nomatch q⟩
    · obtain ⟨o, ho, _, hd⟩ := S.si
      exact ⟨o, ho, fun v q => by rw [hd] at q; cases q⟩
  keep := fun i h h' S k => by
    obtain ⟨old, he⟩ := S.en
    obtain ⟨o, ho, r⟩ := S.si
    exact ⟨⟨old, k e (by simp) _ he⟩, ⟨o, k it (by simp) o ho, r⟩, S.ne⟩
  item := by
    intro X hP hw hK hc i pins s σ H E I hf S hg
    subst hP; subst hw; subst hK
    obtain ⟨old, he⟩ := S.en
    have hel : e < s.heap.objs.size := Heap.lt_size he
    have hil : it < s.heap.objs.size := by obtain ⟨_, q, _⟩ := S.si; exact Heap.lt_size q
    have D := drawsS (prog := X.prog) (w := X.w) (A := X.A.in1) (I.ok.hd hc) it x t
    refine wpAny_pyNext_enum_itemD D he S.si hg S.ne (fun z => S.ne (List.mem_singleton.mp z)) fun v h' tk hv ho hsi hT hsz hk => ?_
    obtain ⟨c, u, hcx, rfl⟩ := hv
    refine ⟨_, rfl, wpAny_letOwnedTupleGo_enum (s := { s with heap := h', toks := tk + 1 }) ho fun h2 he2 sb => ?_⟩
    have hT2 : h2.get? s.heap.objs.size = some { cls := .type "tuple", data := .seq #[.int i tk, .str ⟨#[c]⟩ u] } := (sb.2 _ (Nat.ne_of_gt hel)).trans hT
    have hnew : ObjOk X.prog X.w (upd H s.heap.objs.size (.tup [.int (i : Nat), .str ⟨#[c]⟩])) h2 s.heap.objs.size (.tup [.int (i : Nat), .str ⟨#[c]⟩]) := by
      refine ⟨?_, [.int i tk, .str ⟨#[c]⟩ u], .cons ⟨tk, rfl⟩ (.cons ⟨u, rfl⟩ .nil), ⟨_, hT2, rfl, _, rfl⟩⟩
      show 2 ≤ sizeLine
      decide
    have I2 : Inv X pins σ (upd H s.heap.objs.size (.tup [.int (i : Nat), .str ⟨#[c]⟩])) { s with heap := h2, toks := tk + 1 } := by
      refine I.turnedNew (ch := [e, it]) (fun b ob hb q => ?_) hf (Nat.le_refl _) hnew
      have b1 : b ≠ e := fun z => hb (by simp [z])
      have b2 : b ≠ it := fun z => hb (by simp [z])
      exact (sb.2 b b1).trans (hk b ob b1 b2 q)
    refine ⟨.ref s.heap.objs.size, _, I2, rfl, ⟨_, c, rfl, I.hok.fresh (Nat.le_refl _), rfl, hcx⟩, ⟨⟨.str ⟨#[c]⟩ u, ?_⟩, ?_, S.ne⟩, fun b hb => ?_⟩
    · have e1 : ((i + 1 : Nat) : Int) = (i : Int) + 1 := by omega
      rw [e1]
      exact he2
    · obtain ⟨o, q, r⟩ := hsi
      exact ⟨o, (sb.2 it (Ne.symm S.ne)).trans q, r⟩
    · have hb' : b < s.heap.objs.size := by
        rcases two_mem hb with rfl | rfl
        · exact hel
        · exact hil
      rw [upd_ne (Nat.ne_of_lt hb')]
      exact (hf b hb).1
  done := by
    intro X hP hw hK hc i pins s σ H E I hf S hg
    subst hP; subst hw; subst hK
    obtain ⟨old, he⟩ := S.en
    obtain ⟨f0, f1, f2, f3, f4, f5⟩ := hf it (by simp)
    have D := drawsS (prog := X.prog) (w := X.w) (A := X.A.in1) (I.ok.hd hc) it x t
    have hg' : i = x.cps.size := hg
    subst hg'
    exact wpAny_pyNext_enum_endD D he S.si fun h' eb => ⟨rfl, I.turned (t' := s.toks) (fun b o hb q => eb b o hb q) f0 f1 f3 f4 f5⟩
  self := fun A i s Q E S h => by
    obtain ⟨old, he⟩ := S.en
    exact wpAny_pyIter_enum he h
def iEnS (ta : TA) : TI := fun σ H R => ta σ H fun vs H1 => ∃ x, vs = [.str x] ∧ R (ItES x) H1
theorem pi_enS {X : Cx} {e : Expr} {ta : TA} {p pos tpos : Pos} {elts : List Expr} {kk : Nat} (hg : Gl X "enumerate") (hm : X.mg "enumerate" = none) (ha : PA X [e] ta) (hs : starEach [e] X.env = [(false, eval e X.env)] := by rfl) :
    PI X (.Tuple elts kk tpos) (.Call (.Name "enumerate" p) [e] [] pos) (iEnS ta) := by
  refine ⟨fun pins s σ H R I h => Call_ (ld_blt I hg hm boot_enumerate (PyProof.Rows.callWith_type1 (thn (ha.run pos pins s σ H _ I h) fun us s1 hq => ?_) hs rfl))⟩
  obtain ⟨vs, H1, I1, r1, x, rfl, q⟩ := hq
  obtain ⟨u, rfl, t, rfl⟩ := vals1 r1
  refine call_enumerate_str fun h' he hsi hsz hk => wpAny_pyIter_enum he ?_
  have I2 : Inv X pins σ H1 { s1 with heap := h' } := I1.kept (t' := s1.toks) hk
  refine ⟨s1.heap.objs.size + 1, [s1.heap.objs.size + 1, s1.heap.objs.size], _, _, H1, rfl, I2, turn_enS x t (s1.heap.objs.size + 1) s1.heap.objs.size, ⟨⟨.none, he⟩, hsi, Nat.succ_ne_self _⟩, fun b hb => ?_, q⟩
  have hle : s1.heap.objs.size ≤ b := by
    rcases two_mem hb with rfl | rfl
    · exact Nat.le_succ _
    · exact Nat.le_refl _
  exact I1.fpOk hle (I1.hok.fresh hle)
/-- the loop over a text's signs with their places -/
theorem for_enS {x : Str} {g : TG} {tb : TS} {D : Ends} {σ : L2.St} {H : Hp} (Pv : Nat → L2.St → Hp → Prop) (h0 : Pv 0 σ H)
    (hs : ∀ (i c : Nat) (T : Addr) σ H, x.cps[i]? = some c → Pv i σ H → H T = none → g (.ref T) σ (upd H T (.tup [.int (i : Nat), .str ⟨#[c]⟩])) fun σ2 H2 => tb { D with nx := Pv (i + 1), ct := Pv (i + 1), bk := D.nx } σ2 H2) (hd : ∀ σ H, Pv x.cps.size σ H → D.nx σ H) :
    ∃ W : Nat → Nat → L2.St → Hp → Prop, (∃ m, W 0 m σ H) ∧ ∀ i m σ H, W i m σ H →
      ((ItES x).stop i H ∧ D.nx σ H) ∨ ((ItES x).go i H ∧ ∃ N : L2.St → Hp → Prop, (∀ σ' H', N σ' H' → ∃ m', m' < m ∧ W (i + 1) m' σ' H') ∧ ∀ y H', (ItES x).yld i H y H' → g y σ H' fun σ2 H2 => tb { D with nx := N, ct := N, bk := D.nx } σ2 H2) := by
  refine ⟨fun i m σ H => i + m = x.cps.size ∧ Pv i σ H, ⟨x.cps.size, by omega, h0⟩, fun i m σ H hW => ?_⟩
  obtain ⟨em, hp⟩ := hW
  by_cases hi : i < x.cps.size
  · refine .inr ⟨hi, Pv (i + 1), fun σ' H' hN => ⟨m - 1, by omega, by omega, hN⟩, fun y H' hy => ?_⟩
    obtain ⟨T, c, rfl, hT, rfl, hc⟩ := hy
    exact hs i c T σ H hc hp hT
  · have e : i = x.cps.size := by omega
    subst e
    exact .inl ⟨rfl, hd σ H hp⟩
end Fm
set_option maxHeartbeats 4000000
/-! FmS: sets of texts and of nested tuples, their making, their sorted members. -/
namespace Fm
open PySem PySem.Spec PyProof.Rows L2

/-! ### data as keys -/
mutual
def keyD : PyData → NestedKey
  | .none => .none
  | .bool b => .num (if b = true then 1 else 0)
  | .int i => .num i
  | .str x => .text x
  | .tuple ds => .tup (keysD ds)
  | .list _ => .none
  | .dict _ => .none
def keysD : List PyData → List NestedKey
  | [] => []
  | d :: ds => keyD d :: keysD ds
end
mutual
def hashd : PyData → Bool
  | .tuple ds => hashds ds
  | .list _ => false
  | .dict _ => false
  | .none => true
  | .bool _ => true
  | .int _ => true
  | .str _ => true
def hashds : List PyData → Bool
  | [] => true
  | d :: ds => hashd d && hashds ds
end
mutual
theorem nested_of {X : Cx} {pins : List (Addr × Obj)} {σ : L2.St} {H : Hp} {s : Shared} (I : Inv X pins σ H s) : ∀ (d : PyData) (v : V) (u : Value), hashd d = true → Dp X.K H v d → RelV v u → NestedIs s.heap (keyD d) u
  | .none, _, _, _, h, r => by
    cases h; cases r
    exact .none
  | .bool b, _, _, _, h, r => by
    cases h; cases r
    exact .bool rfl
  | .int i, _, _, _, h, r => by
    cases h
    obtain ⟨t, rfl⟩ := r
    exact .int i t
  | .str x, _, _, _, h, r => by
    cases h
    obtain ⟨t, rfl⟩ := r
    exact .text x t
  | .list ds, _, _, e, _, _ => by cases e
  | .dict ds, _, _, e, _, _ => by cases e
  | .tuple ds, _, _, e, h, r => by
    cases h with
    | tup hs ha =>
      cases r
      obtain ⟨its, rv, ⟨o, ho, hc, n, hd⟩, _⟩ := I.tuple hs
      exact .tup ho hc hd (nested_all I ds _ its e ha rv)
theorem nested_all {X : Cx} {pins : List (Addr × Obj)} {σ : L2.St} {H : Hp} {s : Shared} (I : Inv X pins σ H s) : ∀ (ds : List PyData) (vs : List V) (us : List Value), hashds ds = true → DpAll X.K H vs ds → Vals vs us → NestedAll s.heap (keysD ds) us
  | [], _, _, _, h, r => by
    cases h; cases r
    exact .nil
  | d :: ds, _, _, e, h, r => by
    cases h with
    | cons h1 h2 =>
      cases r with
      | cons r1 r2 =>
        rw [hashds, Bool.and_eq_true] at e
        exact .cons (nested_of I d _ _ e.1 h1 r1) (nested_all I ds _ _ e.2 h2 r2)
end

/-! ### small questions asked of nested tuples -/
theorem nested_items {h : Heap} {n : Nat} : ∀ {ks : List NestedKey} {vs : List Value}, NestedAll h ks vs → NestedKey.depthAll ks ≤ n → ∀ v ∈ vs, ∃ k, NestedIs h k v ∧ k.depth ≤ n
  | _, _, .nil, _, v, m => by cases m
  | _, _, .cons (k := k) a t, hn, v, m => by
    simp only [NestedKey.depthAll] at hn
    rcases List.mem_cons.mp m with e | m
    · rw [e]
      exact ⟨k, a, by omega⟩
    · exact nested_items t (by omega) v m
section
variable {P : Program} {w : World}
theorem ofAClass_nested : ∀ (n : Nat) (k : NestedKey) (v : Value) (A : Around) (E : Value → Shared → Prop) (s : Shared) (Q : Bool → Shared → Prop), NestedIs s.heap k v → k.depth ≤ n → Q false s → wpAny (model P w) A (ofAClassStatement n v) Q E s := by
  intro n
  induction n with
  | zero =>
    intro k v A E s Q x hn h
    cases x with
    | tup _ _ _ _ => simp only [NestedKey.depth] at hn; omega
    | _ => exact wpAny_pure h
  | succ n ih =>
    intro k v A E s Q x hn h
    cases x with
    | tup hg hc hd hk =>
      simp only [NestedKey.depth] at hn
      have his := nested_items hk (n := n) (by omega)
      unfold ofAClassStatement
      refine wpAny_bind (wpAny_typeOf ⟨_, hg, hc⟩ ?_)
      dsimp only
      have e : (("tuple" : String) == "tuple") = true := by decide
      simp only [e, if_true, Bool.not_true, Bool.false_eq_true, if_false]
      try refine wpAny_bind (wpAny_pure ?_)
      try simp only [Bool.not_true, Bool.false_eq_true, if_false]
      refine wpAny_bind (wpAny_seqItems hg hd ?_)
      dsimp only
      refine wpAny_bind ?_
      rw [← Array.forIn_toList]
      refine wpAny_forIn_list _ (fun rest r s' => r.1 = none ∧ s' = s ∧ ∀ v ∈ rest, ∃ k, NestedIs s.heap k v ∧ k.depth ≤ n) _ ?_ ?_ _ _ ⟨rfl, rfl, his⟩
      · rintro v rest r s' ⟨hr, rfl, hall⟩
        obtain ⟨k, a1, a2⟩ := hall v List.mem_cons_self
        refine wpAny_bind (ih k v A E s' _ a1 a2 ?_)
        simp only [Bool.false_eq_true, if_false]
        exact wpAny_pure ⟨rfl, rfl, fun u hu => hall u (List.mem_cons_of_mem _ hu)⟩
      · rintro ⟨r1, r2⟩ s' ⟨hr, rfl, _⟩
        simp only at hr
        subst hr
        exact wpAny_pure h
    | _ => exact wpAny_pure h
/-- by value or not: it is told, and nothing is done -/
theorem hashBy_nested : ∀ (n : Nat) (k : NestedKey) (v : Value) (A : Around) (E : Value → Shared → Prop) (s : Shared) (Q : Bool → Shared → Prop), NestedIs s.heap k v → k.depth ≤ n → (∀ b, Q b s) → wpAny (model P w) A (hashByValue n v) Q E s := by
  intro n
  induction n with
  | zero =>
    intro k v A E s Q x hn h
    cases x with
    | tup _ _ _ _ => simp only [NestedKey.depth] at hn; omega
    | _ => exact wpAny_pure (h _)
  | succ n ih =>
    intro k v A E s Q x hn h
    cases x with
    | tup hg hc hd hk =>
      simp only [NestedKey.depth] at hn
      have his := nested_items hk (n := n) (by omega)
      unfold hashByValue
      refine wpAny_bind (wpAny_specialOf ⟨_, hg, hc⟩ F.slot_tuple_hash.lookup ?_)
      refine wpAny_bind (wpAny_seqItems hg hd ?_)
      refine wpAny_bind ?_
      dsimp only [Option.getD]
      rw [← Array.forIn_toList]
      refine wpAny_forIn_list _ (fun rest r s' => s' = s ∧ ∀ v ∈ rest, ∃ k, NestedIs s.heap k v ∧ k.depth ≤ n) _ ?_ ?_ _ _ ⟨rfl, his⟩
      · rintro v rest r s' ⟨rfl, hall⟩
        obtain ⟨k, a1, a2⟩ := hall v List.mem_cons_self
        refine wpAny_bind (ih k v A E s' _ a1 a2 fun b => ?_)
        cases b
        · simp only [Bool.not_false, if_true]
          exact wpAny_pure (wpAny_pure (h _))
        · simp only [Bool.not_true, Bool.false_eq_true, if_false]
          exact wpAny_pure ⟨rfl, fun u hu => hall u (List.mem_cons_of_mem _ hu)⟩
      · rintro ⟨r1, r2⟩ s' ⟨rfl, _⟩
        dsimp only
        split
        · exact wpAny_pure (h _)
        · exact wpAny_pure (h _)
    | _ => exact wpAny_pure (h _)
/-- a search among nested tuples shows nothing -/
theorem seen_nested {A : Around} {E : Value → Shared → Prop} {s : Shared} {k : NestedKey} {b : Addr} {Q : Bool → Shared → Prop} (hk : NestedIs s.heap k (.ref b)) (hd : k.depth ≤ 8) {ys : List Value} (hy : ∀ y ∈ ys, ∃ k c, y = Value.ref c ∧ NestedIs s.heap k (.ref c) ∧ k.depth ≤ 8) (h : Q false s) :
    wpAny (model P w) A (searchCouldBeSeen (.ref b) ys) Q E s := by
  unfold searchCouldBeSeen
  refine wpAny_bind ?_
  refine wpAny_forIn_list _ (fun rest r s' => r.1 = none ∧ s' = s ∧ ∀ y ∈ rest, ∃ k c, y = Value.ref c ∧ NestedIs s.heap k (.ref c) ∧ k.depth ≤ 8) _ ?_ ?_ _ _ ⟨rfl, rfl, hy⟩
  · rintro v rest r s' ⟨hr, rfl, hall⟩
    obtain ⟨k', c, rfl, hc, hcd⟩ := hall v List.mem_cons_self
    have rest' : ∀ y ∈ rest, ∃ k c, y = Value.ref c ∧ NestedIs s'.heap k (.ref c) ∧ k.depth ≤ 8 := fun u hu' => hall u (List.mem_cons_of_mem _ hu')
    dsimp only
    by_cases hv : (b == c || (carriedByValue (.ref b) && carriedByValue (.ref c))) = true
    · refine wp_if_pos hv ?_
      exact wpAny_pure ⟨rfl, rfl, rest'⟩
    · refine wp_if_neg hv ?_
      refine wpAny_bind (quiet_key k (.ref b) 8 s' hk hd A E _ ?_)
      simp only [Bool.not_true, Bool.false_eq_true, if_false]
      refine wpAny_bind (quiet_key k' (.ref c) 8 s' hc hcd A E _ ?_)
      simp only [Bool.not_true, Bool.false_eq_true, if_false]
      refine wpAny_bind (ofAClass_nested 8 k (.ref b) A E s' _ hk hd ?_)
      simp only [Bool.false_eq_true, if_false]
      refine wpAny_bind (ofAClass_nested 8 k' (.ref c) A E s' _ hc hcd ?_)
      simp only [Bool.false_eq_true, if_false]
      exact wpAny_pure ⟨rfl, rfl, rest'⟩
  · rintro ⟨r1, r2⟩ s' ⟨hr, rfl, _⟩
    simp only at hr
    subst hr
    exact wpAny_pure h
end

/-! ### the set, its rows -/
/-- the rows: a value and the datum it reads as -/
abbrev Row := Value × PyData
def kh (w : World) (p : Row) : Int := (keyD p.2).hash w
def rowsK (w : World) (L : List Row) : List (Int × Value) := L.map fun p => (kh w p, p.1)
theorem map_perm {α β : Type} {f : α → β} : ∀ {l m : List β}, l.Perm m → ∀ L : List α, l = L.map f → ∃ L' : List α, L'.Perm L ∧ m = L'.map f := by
  intro l m h
  induction h with
  | nil => intro L e; exact ⟨[], by rw [List.map_eq_nil_iff.mp e.symm], rfl⟩
  | cons x _ ih =>
    intro L e
    obtain ⟨y, L2, rfl, e1, e2⟩ := List.map_eq_cons_iff.mp e.symm
    obtain ⟨L3, p, q⟩ := ih L2 e2.symm
    exact ⟨y :: L3, p.cons y, by rw [List.map_cons, e1, q]⟩
  | swap x y l =>
    intro L e
    obtain ⟨a, L2, rfl, e1, e2⟩ := List.map_eq_cons_iff.mp e.symm
    obtain ⟨b, L3, rfl, e3, e4⟩ := List.map_eq_cons_iff.mp e2
    exact ⟨b :: a :: L3, List.Perm.swap _ _ _, by rw [List.map_cons, List.map_cons, e1, e3, e4]⟩
  | trans _ _ ih1 ih2 =>
    intro L e
    obtain ⟨L2, p, q⟩ := ih1 L e
    obtain ⟨L3, p3, q3⟩ := ih2 L2 q
    exact ⟨L3, p3.trans p, q3⟩
/-- the set at a holds the rows; Z what its table keeps beside -/
structure SetK (Z : SetTable → List Int → Prop) (w : World) (h : Heap) (a : Addr) (L : List Row) (es : Array (Int × Value)) (ep : Nat) (t : SetTable) : Prop where
  ob : ∃ o, h.get? a = some o ∧ o.ExactSet ∧ o.data = .set es ep t
  rows : es.toList = rowsK w L
  nd : (L.map fun p => keyD p.2).Nodup
  fits : t.fits es.size = true
  ris : Ris t.place.toList
  led : w.params.followText "set-order" = true ∨ t.led = true
  few : L.length < 64
  z : Z t (L.map (kh w))
section
variable {Z : SetTable → List Int → Prop} {P : Program} {w : World} {A : Around} {E : Value → Shared → Prop} {s : Shared} {a : Addr} {L : List Row} {es : Array (Int × Value)} {ep : Nat} {t : SetTable}
theorem rows_size (h : es.toList = rowsK w L) : es.size = L.length := by
  have h := congrArg List.length h
  unfold rowsK at h
  rw [Array.length_toList, List.length_map] at h
  exact h
theorem SetK.size {h : Heap} (R : SetK Z w h a L es ep t) : es.size = L.length := rows_size R.rows
theorem rows_entry (h : es.toList = rowsK w L) {i : Nat} {p : Row} (q : L[i]? = some p) : es[i]? = some (kh w p, p.1) := by
  rw [← Array.getElem?_toList, h]
  unfold rowsK
  rw [List.getElem?_map, q] <;> rfl
theorem SetK.at {h h' : Heap} (R : SetK Z w h a L es ep t) (k : ∀ o, h.get? a = some o → h'.get? a = some o) : SetK Z w h' a L es ep t := by
  obtain ⟨o, ho, r⟩ := R.ob
  exact ⟨⟨o, k o ho, r⟩, R.rows, R.nd, R.fits, R.ris, R.led, R.few, R.z⟩
/-! ### texts: by the scan -/
abbrev ZX : SetTable → List Int → Prop := fun _ _ => True
def AllX (L : List Row) : Prop := ∀ p ∈ L, ∃ x tk, p = (Value.str x tk, PyData.str x)
theorem x_key (k : Str) (u : Tok) : (strKind P w).is k (.str k u) = true := by
  show (k == k) = true
  exact beq_self_eq_true k
theorem x_elems (g : AllX L) : ElemsOf (strKind P w) (rowsK w L) := fun e he => by
  obtain ⟨p, hp, rfl⟩ := List.mem_map.mp he
  obtain ⟨x, tk, rfl⟩ := g p hp
  exact ⟨⟨x, x_key x tk, rfl⟩, rfl⟩
theorem x_is {p : Row} (g : ∃ x tk, p = (Value.str x tk, PyData.str x)) (k : Str) : (strKind P w).is k p.1 = true ↔ keyD p.2 = .text k := by
  obtain ⟨x, tk, rfl⟩ := g
  constructor
  · intro h
    have h' : (x == k) = true := h
    rw [beq_iff_eq.mp h'] <;> rfl
  · intro h
    have e : x = k := by
      have h' : NestedKey.text x = NestedKey.text k := h
      injection h'
    rw [e]
    exact x_key k tk
/-- behind an add: the members -/
structure Grown (p : Row) (L L' : List Row) : Prop where
  old : keyD p.2 ∈ L.map (fun p => keyD p.2) → L' = L
  new : keyD p.2 ∉ L.map (fun p => keyD p.2) → L'.Perm (p :: L)
theorem x_tail {g : Bool → Sem Unit} (hg : ∀ (b : Bool) (s₁ : Shared) (Q' : Unit → Shared → Prop), Q' () s₁ → wpAny (model P w) A (g b) Q' E s₁)
    {o : Obj} (ho : s.heap.get? a = some o) (hex : o.ExactSet) (hd : o.data = .set es ep t)
    {es1 : Array (Int × Value)} {t2 : SetTable} {L1 : List Row} (r1 : es1.toList = rowsK w L1) (nd1 : (L1.map fun p => keyD p.2).Nodup) (f1 : L1.length < 64)
    (hf2 : t2.fits es1.size = true) (hr : Ris t2.place.toList) (hl : w.params.followText "set-order" = true ∨ t2.led = true) {wasDummy : Bool} {R : Option Bool → Shared → Prop}
    (hR : ∀ h' L' es' ep' t', Heap.SameBut a s.heap h' → SetK ZX w h' a L' es' ep' t' → L'.Perm L1 → R (some true) { s with heap := h' }) :
    wpAny (model P w) A (do
        storeSet a es1 t2
        if (!wasDummy && t2.tooFull) = true then do
            g (relayAll t2 es1 (SetTable.grown es1.size)).2.2
            storeSet a (relayAll t2 es1 (SetTable.grown es1.size)).1 (relayAll t2 es1 (SetTable.grown es1.size)).2.1
            pure (some true)
          else pure (some true)) R E s := by
  have hb1 : es1.size < scanBound := by rw [rows_size r1]; unfold scanBound; omega
  refine wpAny_bind (wpAny_storeSet_of ho hd ?_ (fits_of_scanBound hb1))
  have ho1 := store_at (es' := es1) (t' := t2) ho hd
  have sb1 := Heap.SameBut.update s.heap a (Obj.putSet es1 t2)
  split
  · have pm := relayAll_perm t2 es1 (SetTable.grown es1.size)
    have hf3 := relayAll_fits t2 es1 (SetTable.grown es1.size)
    have hr3 := relayAll_ris t2 es1 (SetTable.grown es1.size)
    have hl3 := relayAll_led t2 es1 (SetTable.grown es1.size)
    generalize relayAll t2 es1 (SetTable.grown es1.size) = Z at pm hf3 hr3 hl3 ⊢
    obtain ⟨es2, t3, gave⟩ := Z
    dsimp only at pm hf3 hr3 hl3 ⊢
    obtain ⟨L2, p2, r2⟩ := map_perm pm.symm L1 r1
    have hb2 : es2.size < scanBound := by
      rw [rows_size (w := w) (L := L2) r2, p2.length_eq]
      unfold scanBound
      omega
    refine wpAny_bind (hg _ _ _ ?_)
    refine wpAny_bind (wpAny_storeSet_of ho1 rfl ?_ (fits_of_scanBound hb2))
    have ho2 := store_at (es' := es2) (t' := t3) ho1 rfl
    refine wpAny_pure (hR _ L2 es2 (ep + 1 + 1) t3 (sb1.trans (Heap.SameBut.update _ a _)) ?_ p2)
    exact ⟨⟨_, ho2, hex, rfl⟩, r2, (p2.map _).nodup_iff.mpr nd1, hf3, hr3, hl.imp id fun z => by rw [hl3]; exact z, by rw [p2.length_eq]; exact f1, True.intro⟩
  · exact wpAny_pure (hR _ L1 es1 (ep + 1) t2 sb1 ⟨⟨_, ho1, hex, rfl⟩, r1, nd1, hf2, hr, hl, f1, True.intro⟩ (List.Perm.refl _))
theorem add_text {k : Str} {tk : Tok} {Q : Bool → Shared → Prop} (R : SetK ZX w s.heap a L es ep t) (g : AllX L) (room : L.length + 1 < 64)
    (hQ : ∀ b h' L' es' ep' t', Heap.SameBut a s.heap h' → SetK ZX w h' a L' es' ep' t' → Grown (.str k tk, .str k) L L' → Q b { s with heap := h' }) :
    wpAny (model P w) A (setAddHashed a (.str k tk) ((strKind P w).hash k)) Q E s := by
  obtain ⟨o, ho, hex, hd⟩ := R.ob
  have hkey : (strKind P w).is k (.str k tk) = true := x_key k tk
  have hsc : (Value.str k tk).scannable = true := rfl
  have hel : ElemsOf (strKind P w) es.toList := by rw [R.rows]; exact x_elems g
  have hb : es.size < scanBound := by rw [R.size]; have := R.few; unfold scanBound; omega
  unfold setAddHashed setAddHashedIn
  refine wpAny_holding (wpAny_bind (wpAny_setState_of ho hd R.fits ?_))
  dsimp only
  rw [byScan_of hsc hb hel]
  simp only [↓reduceIte]
  unfold setAddByScan
  refine wpAny_bind ?_
  refine wpAny_bind (wpAny_rule ?_)
  refine wpAny_bind (wpAny_setScan_of hkey ho hd R.fits hel ?_)
  cases hfi : List.findIdx? (fun e => (strKind P w).is k e.2) es.toList with
  | some j =>
    dsimp only
    obtain ⟨hj, pj, _⟩ := List.findIdx?_eq_some_iff_getElem.mp hfi
    have hin : keyD (PyData.str k) ∈ L.map (fun p => keyD p.2) := by
      have m : es.toList[j] ∈ rowsK w L := by rw [← R.rows]; exact List.getElem_mem hj
      obtain ⟨p, hp, e⟩ := List.mem_map.mp m
      rw [← e] at pj
      exact List.mem_map.mpr ⟨p, hp, (x_is (g p hp) k).1 pj⟩
    exact wpAny_pure (wpAny_pure (hQ false s.heap L es ep t (Heap.SameBut.refl a s.heap) R ⟨fun _ => rfl, fun z => absurd hin z⟩))
  | none =>
    dsimp only
    have hnk : keyD (PyData.str k) ∉ L.map (fun p => keyD p.2) := fun z => by
      obtain ⟨p, hp, q⟩ := List.mem_map.mp z
      have m : (kh w p, p.1) ∈ es.toList := by rw [R.rows]; exact List.mem_map.mpr ⟨p, hp, rfl⟩
      have c := List.findIdx?_eq_none_iff.mp hfi _ m
      have d := (x_is (P := P) (w := w) (g p hp) k).2 q
      dsimp only at c
      rw [d] at c
      cases c
    have hgw : ∀ (b : Bool) {s₁ : Shared} {Q' : Unit → Shared → Prop}, Q' () s₁ → wpAny (model P w) A (match b with | true => rule "set.scan.the-table-gave-way" | false => pure ()) Q' E s₁ :=
      fun b s₁ Q' q => by cases b <;> first | exact wpAny_pure q | exact wpAny_rule q
    have pm := layNew_perm t es ((strKind P w).hash k) (.str k tk)
    have hf1 := layNew_fits t es ((strKind P w).hash k) (.str k tk)
    have hr1 := layNew_ris t es ((strKind P w).hash k) (.str k tk) R.ris
    have hl1 := layNew_led t es ((strKind P w).hash k) (.str k tk)
    generalize layNew t es ((strKind P w).hash k) (.str k tk) = Z at pm hf1 hr1 hl1 ⊢
    obtain ⟨es1, t1, wasDummy, gave⟩ := Z
    dsimp only at pm hf1 hr1 hl1 ⊢
    rw [Array.toList_push] at pm
    have pc : es1.toList.Perm (rowsK w ((.str k tk, .str k) :: L)) := by
      have q := pm.trans (List.perm_append_singleton _ _)
      rw [R.rows] at q
      exact q
    obtain ⟨L1, p1, r1⟩ := map_perm pc.symm _ rfl
    have nd1 : (L1.map fun p => keyD p.2).Nodup := (p1.map _).nodup_iff.mpr (List.nodup_cons.mpr ⟨hnk, R.nd⟩)
    have f1 : L1.length < 64 := by rw [p1.length_eq, List.length_cons]; exact room
    have hled : w.params.followText "set-order" = true ∨ t1.led = true := R.led.imp id fun z => by rw [hl1]; exact z
    have fin : ∀ h' L' es' ep' t', Heap.SameBut a s.heap h' → SetK ZX w h' a L' es' ep' t' → L'.Perm L1 → Q true { s with heap := h' } := fun h' L' es' ep' t' sb r pl =>
      hQ true h' L' es' ep' t' sb r ⟨fun z => absurd z hnk, fun _ => pl.trans p1⟩
    refine wpAny_bind (hgw _ ?_)
    split
    · refine wpAny_bind ?_
      rw [hashByValue_scannable 8 hsc]
      refine wpAny_pure ?_
      refine x_tail ?_ ho hex hd r1 nd1 f1 ?_ ?_ ?_ ?_
      · intro b s₁ Q' q; cases b <;> first | exact wpAny_pure q | exact wpAny_rule q
      · first | (split <;> first | exact hf1 | exact SetTable.fits_plain_off hf1) | exact hf1
      · first | (split <;> exact hr1) | exact hr1
      · first | (split <;> exact hled) | exact hled
      · intro h' L' es' ep' t' sb r pl; dsimp only; exact wpAny_pure (fin h' L' es' ep' t' sb r pl)
    · refine wpAny_bind (wpAny_pure ?_)
      simp only [↓reduceIte]
      refine x_tail ?_ ho hex hd r1 nd1 f1 hf1 hr1 hled ?_
      · intro b s₁ Q' q; cases b <;> first | exact wpAny_pure q | exact wpAny_rule q
      · intro h' L' es' ep' t' sb r pl; dsimp only; exact wpAny_pure (fin h' L' es' ep' t' sb r pl)
/-! ### nested tuples: by the search -/
abbrev ZT : SetTable → List Int → Prop := fun t hs => TabOk t hs ∧ hs.length * 5 < t.mask * 3
/-- the row is a tuple that can be a key -/
structure IsK (h : Heap) (p : Row) : Prop where
  ex : ∃ c, p.1 = Value.ref c ∧ NestedIs h (keyD p.2) (.ref c) ∧ (keyD p.2).depth ≤ 8
theorem IsK.keep {h h' : Heap} {p : Row} (x : IsK h p) (hk : ∀ c o, h.get? c = some o → h'.get? c = some o) : IsK h' p := by
  obtain ⟨c, e, n, d⟩ := x.ex
  exact ⟨c, e, NestedIs.at (fun b o _ _ q _ => hk b o q) _ _ n, d⟩
abbrev st0 (w : World) (t : SetTable) (p : Row) : SetTable.Probe := runAt t.mask (SetTable.bits (kh w p) % (t.mask + 1)) (SetTable.bits (kh w p))
theorem nth_dm {m : Nat} : ∀ (n : Nat) (p : SetTable.Probe), p.dummy = none → (nth m p n).dummy = none := by
  intro n
  induction n with
  | zero => intro p h; exact h
  | succ n ih =>
    intro p h
    refine ih (adv m p) ?_
    unfold adv
    split <;> exact h
theorem SetK.gw (R : SetK ZT w s.heap a L es ep t) : ¬ t.gaveWay = true := by
  unfold SetTable.gaveWay
  rw [mask_odd R.z.1.mok]
  decide
theorem look_from (R : SetK ZT w s.heap a L es ep t) (g : ∀ q ∈ L, IsK s.heap q) {p : Row} (hx : IsK s.heap p) (hu : A.units + 64 < cLine) {K : Nat} (hKf : K < 10 * SetTable.turns t.mask)
    (hK : way t.mask (kh w p) K ∉ t.place.toList) (hKb : ∀ c, c < K → way t.mask (kh w p) c ∈ t.place.toList) {Q : SetFound → Shared → Prop}
    (hin : keyD p.2 ∈ L.map (fun p => keyD p.2) → Q (.there none) s) (hout : keyD p.2 ∉ L.map (fun p => keyD p.2) → Q (.free (way t.mask (kh w p) K) false) s) :
    ∀ (f c : Nat) (stand : Option SetTable.Probe), stand.getD (t.probeStart (kh w p)) = nth t.mask (st0 w t p) c → c ≤ K → K - c < f →
      (∀ (i : Nat) q, L[i]? = some q → keyD q.2 = keyD p.2 → ∃ c', c ≤ c' ∧ c' < K ∧ t.place.toList[i]? = some (way t.mask (kh w p) c')) →
      wpAny (model P w) A (setSearchFrom a p.1 (kh w p) true f stand) Q E s
  | 0, c, stand, _, _, hf, _ => absurd hf (Nat.not_lt_zero _)
  | f + 1, c, stand, hst, hc, hf, hre => by
    obtain ⟨o, ho, hex, hd⟩ := R.ob
    obtain ⟨xa, hxa, hxn, hxd⟩ := hx.ex
    rw [setSearchFrom_succ]
    refine wpAny_bind (wpAny_setState_of ho hd R.fits ?_)
    dsimp only
    refine wp_if_neg R.gw ?_
    try refine wpAny_bind (wpAny_pure ?_)
    have hnd : (nth t.mask (st0 w t p) c).dummy = none := nth_dm c _ rfl
    have sh : ∀ q, nth t.mask (nth t.mask (st0 w t p) c) q = nth t.mask (st0 w t p) (c + q) := fun q => (nth_add t.mask c _ q).symm
    have e1 : ∀ q, (nth t.mask (nth t.mask (st0 w t p) c) q).j = way t.mask (kh w p) (c + q) := fun q => congrArg SetTable.Probe.j (sh q)
    have spec := go_spec t R.ris R.z.1.dm (fun i => (es[i]?.map (·.1)).getD 0) (kh w p) (10 * SetTable.turns t.mask) (K - c) _ hnd (by omega)
      (fun q hq => by rw [e1]; exact hKb (c + q) (by omega)) (by rw [e1, show c + (K - c) = K by omega]; exact hK)
    have hashAt : ∀ (i : Nat) q, L[i]? = some q → (fun i => (es[i]?.map (·.1)).getD 0) i = kh w q := fun i q hq => by
      show (es[i]?.map (·.1)).getD 0 = _
      rw [rows_entry R.rows hq] <;> rfl
    have same : ∀ q : Row, keyD q.2 = keyD p.2 → kh w q = kh w p := fun q e => by
      unfold kh
      rw [e]
    rcases spec with ⟨q, i, hq, hi, hh, hno, hpr⟩ | ⟨hno, hpr⟩
    · have hpr' : t.probe (fun i => (es[i]?.map (·.1)).getD 0) (kh w p) (stand.getD (t.probeStart (kh w p))) = some (.candidate (way t.mask (kh w p) (c + q)) i (nth t.mask (st0 w t p) (c + (q + 1)))) := by
        rw [hst, ← e1, ← sh]
        exact hpr
      rw [hpr']
      dsimp only
      rw [e1] at hi
      have hil : i < L.length := by
        have h1 : i < t.place.toList.length := (List.getElem?_eq_some_iff.mp hi).1
        have h2 := R.z.1.sz
        rw [List.length_map] at h2
        rw [Array.length_toList] at h1
        omega
      have hp : L[i]? = some L[i] := List.getElem?_eq_getElem hil
      generalize hpe : L[i] = r at hp
      have hmem : r ∈ L := List.mem_of_getElem? hp
      obtain ⟨ra, hra, hrn, hrd⟩ := (g r hmem).ex
      have rest : wpAny (model P w) A (searchRest a p.1 (kh w p) true f es t (way t.mask (kh w p) (c + q)) i (nth t.mask (st0 w t p) (c + (q + 1)))) Q E s := by
        unfold searchRest
        rw [rows_entry R.rows hp]
        dsimp only
        rw [hra, hxa]
        refine wpAny_bind (wpAny_holding (eqAt_key (keyD r.2) (keyD p.2) A s _ _ hrn hxn (by omega) _ _ _ _ ?_))
        refine wpAny_bind (wpAny_setState_of ho hd R.fits ?_)
        dsimp only
        by_cases hkk : keyD r.2 = keyD p.2
        · have hb : NestedKey.beq (keyD r.2) (keyD p.2) = true := by rw [hkk]; exact NestedKey.beq_self _
          refine wp_if_pos (by rw [hb] <;> rfl) ?_
          exact wpAny_pure (hin (List.mem_map.mpr ⟨r, hmem, hkk⟩))
        · have hb : NestedKey.beq (keyD r.2) (keyD p.2) = false := by
            cases z : NestedKey.beq (keyD r.2) (keyD p.2) with
            | false => rfl
            | true => exact absurd (NestedKey.eq_of_beq _ _ z) hkk
          refine wp_if_neg (by rw [hb]; decide) ?_
          try refine wpAny_bind (wpAny_pure ?_)
          rw [sameMem]
          dsimp only
          have hsl : t.slot (way t.mask (kh w p) (c + q)) = .live i := slot_live R.ris hi
          simp only [if_true, hsl, rows_entry R.rows hp, hra]
          refine wpAny_bind (wpAny_isSame_ref_self (wpAny_bind (wpAny_pure ?_)))
          simp only [if_true]
          refine wp_if_neg (by rw [hb]; decide) ?_
          rw [← hxa]
          refine look_from R g hx hu hKf hK hKb hin hout f (c + (q + 1)) _ rfl (by omega) (by omega) fun i0 p0 h0 hk0 => ?_
          obtain ⟨c', a1, a2, a3⟩ := hre i0 p0 h0 hk0
          refine ⟨c', ?_, a2, a3⟩
          rcases Nat.lt_or_ge c' (c + q) with z | z
          · exfalso
            refine hno (c' - c) i0 (by omega) (by rw [e1, show c + (c' - c) = c' by omega]; exact a3) ?_
            exact (hashAt i0 p0 h0).trans (same p0 hk0)
          · rcases Nat.lt_or_ge (c + q) c' with y | y
            · omega
            · exfalso
              have ec : c' = c + q := Nat.le_antisymm y z
              rw [ec] at a3
              have s0 := slot_live R.ris a3
              rw [hsl] at s0
              injection s0 with s0
              rw [← s0, hp] at h0
              rw [Option.some.inj h0] at hkk
              exact hkk hk0
      by_cases hl : t.led = true
      · refine wp_if_neg (by simp [hl]) ?_
        try refine wpAny_bind (wpAny_pure ?_)
        exact rest
      · refine wp_if_pos (by simp [hl]) ?_
        rw [hxa]
        refine wpAny_bind (seen_nested hxn hxd (fun y hy => ?_) ?_)
        · obtain ⟨e, he, ee⟩ := List.mem_map.mp hy
          have he1 : e ∈ es ∧ e.1 = kh w p := by simpa using he
          have he2 : e ∈ es.toList := by simpa using he1.1
          rw [R.rows] at he2
          obtain ⟨p2, hp2, e2⟩ := List.mem_map.mp he2
          obtain ⟨c2, b1, b2, b3⟩ := (g p2 hp2).ex
          exact ⟨_, c2, by rw [← ee, ← e2]; exact b1, b2, b3⟩
        · refine wp_if_neg (by decide) ?_
          try refine wpAny_bind (wpAny_pure ?_)
          rw [← hxa]
          exact rest
    · have hpr' : t.probe (fun i => (es[i]?.map (·.1)).getD 0) (kh w p) (stand.getD (t.probeStart (kh w p))) = some (.empty (way t.mask (kh w p) K) none) := by
        have e2 : way t.mask (kh w p) K = (nth t.mask (nth t.mask (st0 w t p) c) (K - c)).j := by
          rw [e1, show c + (K - c) = K by omega]
        rw [hst, e2]
        exact hpr
      rw [hpr']
      dsimp only
      refine wpAny_pure (hout fun hm => ?_)
      obtain ⟨p0, h0, hk0⟩ := List.mem_map.mp hm
      obtain ⟨i0, hi0, e0⟩ := List.getElem_of_mem h0
      have h00 : L[i0]? = some p0 := by rw [List.getElem?_eq_getElem hi0, e0]
      obtain ⟨c', a1, a2, a3⟩ := hre i0 p0 h00 hk0
      refine hno (c' - c) i0 (by omega) (by rw [e1, show c + (c' - c) = c' by omega]; exact a3) ?_
      exact (hashAt i0 p0 h00).trans (same p0 hk0)
theorem look_at (R : SetK ZT w s.heap a L es ep t) (g : ∀ q ∈ L, IsK s.heap q) {p : Row} (hx : IsK s.heap p) (hu : A.units + 64 < cLine) {Q : SetFound → Shared → Prop}
    (hin : keyD p.2 ∈ L.map (fun p => keyD p.2) → Q (.there none) s)
    (hout : ∀ K, keyD p.2 ∉ L.map (fun p => keyD p.2) → way t.mask (kh w p) K ∉ t.place.toList → (∀ c, c < K → way t.mask (kh w p) c ∈ t.place.toList) → Q (.free (way t.mask (kh w p) K) false) s) :
    wpAny (model P w) A (setSearch a p.1 (kh w p) true) Q E s := by
  have hroom := R.z.2
  rw [List.length_map] at hroom
  obtain ⟨K, hKf, hK, hKb⟩ := R.z.1.first (by rw [List.length_map]; omega) (kh w p)
  have hbig : K < 100000 := by
    have : 10 * SetTable.turns t.mask ≤ 1420 := by
      unfold SetTable.turns
      rcases R.z.1.mok with e | e | e <;> omega
    omega
  unfold setSearch
  refine look_from R g hx hu hKf hK hKb hin (fun hn => hout K hn hK hKb) 100000 0 none rfl (Nat.zero_le _) (by omega) fun i q hq hk => ?_
  have hi : (L.map (kh w))[i]? = some (kh w p) := by
    rw [List.getElem?_map, hq]
    show some (kh w q) = some (kh w p)
    unfold kh
    rw [hk]
  have hil : i < t.place.toList.length := by
    have h1 : i < L.length := (List.getElem?_eq_some_iff.mp hq).1
    have h2 := R.z.1.sz
    rw [List.length_map] at h2
    rw [Array.length_toList]
    omega
  have hj := List.getElem?_eq_getElem hil
  obtain ⟨c, hc, e⟩ := R.z.1.before hK hi hj
  exact ⟨c, Nat.zero_le _, hc, by rw [hj, e]⟩
theorem rows_order (L : List Row) (es : Array (Int × Value)) (order : Array Nat) (hr : es.toList = rowsK w L) (hp : order.toList.Perm (List.range L.length)) :
    ∃ L2 : List Row, (order.filterMap (es[·]?)).toList = rowsK w L2 ∧ L2.Perm L ∧ (L2.map (kh w)) = order.toList.map fun i => (es.map (·.1)).getD i 0 := by
  have hsz := rows_size hr
  have ent : ∀ i (h : i < L.length), es[i]? = some (kh w L[i], (L[i]).1) := fun i h => rows_entry hr (List.getElem?_eq_getElem h)
  have key : ∀ l : List Nat, (∀ i ∈ l, i < L.length) → ∃ L2 : List Row, l.filterMap (fun i => es[i]?) = rowsK w L2 ∧ L2 = l.filterMap (fun i => L[i]?) ∧ (L2.map (kh w)) = l.map fun i => (es.map (·.1)).getD i 0 := by
    intro l
    induction l with
    | nil => intro _; exact ⟨[], rfl, rfl, rfl⟩
    | cons i l ih =>
      intro hl
      have hi := hl i List.mem_cons_self
      obtain ⟨L2, e1, e2, e3⟩ := ih fun j hj => hl j (List.mem_cons_of_mem _ hj)
      refine ⟨L[i] :: L2, ?_, ?_, ?_⟩
      · rw [List.filterMap_cons_some (ent i hi), e1] <;> rfl
      · rw [List.filterMap_cons_some (List.getElem?_eq_getElem hi), e2]
      · rw [List.map_cons, List.map_cons, e3]
        have e4 : (es.map (·.1)).getD i 0 = kh w L[i] := by
          have e5 : (es.map (·.1))[i]? = some (kh w L[i]) := by rw [Array.getElem?_map, ent i hi] <;> rfl
          simp [Array.getD_eq_getD_getElem?, e5]
        rw [e4]
  obtain ⟨L2, e1, e2, e3⟩ := key order.toList fun i hi => List.mem_range.mp (hp.mem_iff.mp hi)
  refine ⟨L2, by first | (rw [Array.toList_filterMap]; exact e1) | simpa using e1, ?_, e3⟩
  have h1 : L2.Perm ((List.range L.length).filterMap fun i => L[i]?) := by
    rw [e2]
    exact hp.filterMap _
  have h2 : (List.range L.length).filterMap (fun i => L[i]?) = L := by
    have key2 : ∀ n, n ≤ L.length → (List.range n).filterMap (fun i => L[i]?) = L.take n := by
      intro n
      induction n with
      | zero => intro _; rfl
      | succ n ih =>
        intro hn
        have hlt : n < L.length := hn
        rw [List.range_succ, List.filterMap_append, ih (Nat.le_of_lt hlt), List.take_succ, List.getElem?_eq_getElem hlt]
        rw [List.filterMap_cons_some (List.getElem?_eq_getElem hlt)] <;> rfl
    rw [key2 L.length (Nat.le_refl _), List.take_length]
  rw [h2] at h1
  exact h1
/-- the table laid anew, larger -/
theorem relay_k {o : Obj} (ho : s.heap.get? a = some o) (hex : o.ExactSet) (hd : o.data = .set es ep t) (hrows : es.toList = rowsK w L) (hsz : t.place.size = es.size) (hdm : t.dummies = #[]) (hfl : es.size ≤ t.mask)
    (nd : (L.map fun p => keyD p.2).Nodup) (ld : w.params.followText "set-order" = true ∨ t.led = true) (few : L.length < 64) {wanted M : Nat}
    (hw : SetTable.sizeAbove wanted - 1 = M) (hM : MaskOk M) (hw2 : SetTable.sizeAbove wanted ≤ 128) (hn : L.length * 5 < M * 3) {Q : Unit → Shared → Prop}
    (hQ : ∀ h' L' es' ep' t', Heap.SameBut a s.heap h' → SetK ZT w h' a L' es' ep' t' → L'.Perm L → Q () { s with heap := h' }) : wpAny (model P w) A (setRelay a wanted) Q E s := by
  have hsl := rows_size hrows
  have hfits : t.fits es.size = true := by
    unfold SetTable.fits SetTable.fill
    rw [hdm, Bool.and_eq_true, beq_iff_eq, decide_eq_true_eq]
    show t.place.size = es.size ∧ t.place.size + 0 ≤ t.mask
    omega
  obtain ⟨t', order, e, hp, T, em, el, ep', ed⟩ := relaid_ok t (hs := es.map (·.1)) (wanted := wanted) hw hM (by rw [Array.size_map, hsl]; omega)
  rw [Array.size_map, hsl] at hp
  obtain ⟨L2, r1, r2, r3⟩ := rows_order L es order hrows hp
  rw [← r3] at T
  have hs3 := rows_size r1
  have hs2 : (order.filterMap (es[·]?)).size = es.size := by rw [hs3, r2.length_eq, hsl]
  rw [setRelay_eq]
  refine wpAny_bind (wpAny_setState_of ho hd hfits ?_)
  dsimp only
  refine wp_if_neg (by rw [sizeLine_eq]; omega) ?_
  try refine wpAny_bind (wpAny_pure ?_)
  rw [e]
  dsimp only
  refine wpAny_bind ?_
  refine wp_if_neg (by rw [hs2]; simp) ?_
  try refine wpAny_bind (wpAny_pure ?_)
  refine wpAny_pure ?_
  dsimp only
  refine wpAny_storeSet_of ho hd ?_ (by rw [hs2, hsl, sizeLine_eq]; omega)
  have sb : Heap.SameBut a s.heap (s.heap.update a (Obj.putSet (order.filterMap (es[·]?)) t')) := Heap.SameBut.update ..
  refine hQ _ L2 (order.filterMap (es[·]?)) (ep + 1) t' sb ⟨⟨_, store_at ho hd, ⟨hex.1, hex.2.1, hex.2.2⟩, rfl⟩, r1, (r2.map _).nodup_iff.mpr nd, ?_, T.ris, by rw [el]; exact ld, by rw [r2.length_eq]; exact few, T, ?_⟩ r2
  · have hz := T.sz
    rw [List.length_map] at hz
    unfold SetTable.fits SetTable.fill
    rw [ed, Bool.and_eq_true, beq_iff_eq, decide_eq_true_eq]
    show t'.place.size = (order.filterMap (es[·]?)).size ∧ t'.place.size + 0 ≤ t'.mask
    rw [em, hs3, hz, r2.length_eq]
    exact ⟨rfl, by omega⟩
  · rw [List.length_map, r2.length_eq, em]
    exact hn
/-- ADDING -/
theorem add_tuple (R : SetK ZT w s.heap a L es ep t) (g : ∀ q ∈ L, IsK s.heap q) {p : Row} (hx : IsK s.heap p) (hu : A.units + 64 < cLine) (hfew : L.length + 1 < 64) {Q : Bool → Shared → Prop}
    (hQ : ∀ b h' L' es' ep' t', Heap.SameBut a s.heap h' → SetK ZT w h' a L' es' ep' t' → Grown p L L' → Q b { s with heap := h' }) :
    wpAny (model P w) A (setAddHashed a p.1 (kh w p)) Q E s := by
  obtain ⟨o, ho, hex, hd⟩ := R.ob
  have hsl := R.size
  have hroom := R.z.2
  rw [List.length_map] at hroom
  obtain ⟨xa, hxa, hxn, hxd⟩ := hx.ex
  unfold setAddHashed
  refine wpAny_holding ?_
  rw [show (100000 : Nat) = 99999 + 1 from rfl, setAddHashedIn_succ]
  refine wpAny_bind (wpAny_setState_of ho hd R.fits ?_)
  dsimp only
  refine wp_if_neg (by rw [hxa]; simp [byScan, Value.scannable]) ?_
  try refine wpAny_bind (wpAny_pure ?_)
  refine wpAny_bind (look_at R g hx hu (fun hm => ?_) fun K hm hK hb => ?_)
  · dsimp only
    exact wpAny_pure (hQ false s.heap L es ep t (Heap.SameBut.refl a s.heap) R ⟨fun _ => rfl, fun z => absurd hm z⟩)
  · dsimp only
    refine wpAny_bind (wpAny_setState_of ho hd R.fits ?_)
    dsimp only
    obtain ⟨q1, q2, q3, q4, q5, q6, q7, q8, q9⟩ := R.z.1.put hK hb
    generalize hpt : t.put (way t.mask (kh w p) K) = pt at q1 q3 q4 q5 q6 q7 q8 q9 ⊢
    obtain ⟨t1, pl⟩ := pt
    dsimp only at q1 q3 q4 q5 q6 q7 q8 q9 ⊢
    subst q1
    have hin : (SetTable.insertAt es (SetTable.below t.place (way t.mask (kh w p) K)) (kh w p, p.1)).toList = rowsK w (L.take (SetTable.below t.place (way t.mask (kh w p) K)) ++ p :: L.drop (SetTable.below t.place (way t.mask (kh w p) K))) := by
      rw [SetTable.toList_insertAt, R.rows]
      unfold rowsK
      rw [List.map_append, List.map_cons, List.map_take, List.map_drop]
    generalize hpp : SetTable.below t.place (way t.mask (kh w p) K) = pl at q2 q3 hin ⊢
    have pm := put_perm L pl p
    have hlen : (L.take pl ++ p :: L.drop pl).length = L.length + 1 := pm.length_eq
    have hhs : (L.take pl ++ p :: L.drop pl).map (kh w) = (L.map (kh w)).take pl ++ kh w p :: (L.map (kh w)).drop pl := by
      rw [List.map_append, List.map_cons, List.map_take, List.map_drop]
    rw [← hhs] at q3
    have nd1 : ((L.take pl ++ p :: L.drop pl).map fun p => keyD p.2).Nodup := by
      refine (pm.map _).nodup_iff.mpr ?_
      rw [List.map_cons]
      exact List.nodup_cons.mpr ⟨hm, R.nd⟩
    have hes : (SetTable.insertAt es pl (kh w p, p.1)).size = L.length + 1 := by rw [rows_size hin, hlen]
    generalize SetTable.insertAt es pl (kh w p, p.1) = es1 at hin hes ⊢
    generalize L.take pl ++ p :: L.drop pl = L1 at pm hlen q3 nd1 hin
    have fin : ∀ t1 : SetTable, TabOk t1 (L1.map (kh w)) → t1.mask = t.mask → t1.led = t.led → t1.fill = (L.map (kh w)).length + 1 →
        wpAny (model P w) A (do
          storeSet a es1 t1
          if (!false && t1.tooFull) = true then setRelay a (SetTable.grown (es.size + 1))
          return true) Q E s := by
      intro t1 q3 q4 q5 q9
      refine wpAny_bind (wpAny_storeSet_of ho hd ?_ (by rw [hes, sizeLine_eq]; omega))
      have sb : Heap.SameBut a s.heap (s.heap.update a (Obj.putSet es1 t1)) := Heap.SameBut.update ..
      have ho1 := store_at (es' := es1) (t' := t1) ho hd
      generalize s.heap.update a (Obj.putSet es1 t1) = h1 at sb ho1 ⊢
      have ld1 : w.params.followText "set-order" = true ∨ t1.led = true := by rw [q5]; exact R.led
      have hsz1 : t1.place.size = es1.size := by
        have h := q3.sz
        rw [List.length_map, hlen] at h
        rw [h, hes]
      have grown : Grown p L L1 := ⟨fun z => absurd z hm, fun _ => pm⟩
      by_cases hf : t1.tooFull = true
      · refine wp_if_pos (by simp [hf]) ?_
        refine wpAny_bind ?_
        have hfull : (L.length + 1) * 5 ≥ t1.mask * 3 := by
          have h := hf
          unfold SetTable.tooFull at h
          rw [decide_eq_true_eq, q9, List.length_map] at h
          exact h
        rw [hsl]
        have cases2 : (t.mask = 7 ∧ L.length = 4) ∨ (t.mask = 31 ∧ L.length = 18) := by
          rcases R.z.1.mok with e | e | e
          · left; rw [q4, e] at hfull; rw [e] at hroom; exact ⟨e, by omega⟩
          · right; rw [q4, e] at hfull; rw [e] at hroom; exact ⟨e, by omega⟩
          · exfalso; rw [q4, e] at hfull; omega
        have go : ∀ M, SetTable.sizeAbove (SetTable.grown (L.length + 1)) - 1 = M → MaskOk M → SetTable.sizeAbove (SetTable.grown (L.length + 1)) ≤ 128 → (L.length + 1) * 5 < M * 3 →
            wpAny (model P w) A (setRelay a (SetTable.grown (L.length + 1))) (fun _ s' => wpAny (model P w) A (pure true) Q E s') E { s with heap := h1 } := fun M h1' h2' h3' h4' => by
          refine relay_k (s := { s with heap := h1 }) ho1 ⟨hex.1, hex.2.1, hex.2.2⟩ rfl hin hsz1 q3.dm (by rw [hes, q4]; rcases cases2 with ⟨e, e2⟩ | ⟨e, e2⟩ <;> omega) nd1 ld1 (by rw [hlen]; exact hfew) h1' h2' h3' (by rw [hlen]; exact h4') ?_
          intro h2 L2 es2 ep2 t2 sb2 R2 pm2
          exact wpAny_pure (hQ true h2 L2 es2 ep2 t2 (sb.trans sb2) R2 ⟨fun z => absurd z hm, fun _ => pm2.trans pm⟩)
        rcases cases2 with ⟨_, e2⟩ | ⟨_, e2⟩
        · exact go 31 (by rw [e2, size_20]) (.inr (.inl rfl)) (by rw [e2, size_20]; decide) (by omega)
        · exact go 127 (by rw [e2, size_76]) (.inr (.inr rfl)) (by rw [e2, size_76]; decide) (by omega)
      · refine wp_if_neg (by simp [hf]) ?_
        try refine wpAny_bind (wpAny_pure ?_)
        have h := hf
        unfold SetTable.tooFull at h
        rw [decide_eq_true_eq, q9, List.length_map] at h
        refine wpAny_pure (hQ true h1 L1 es1 (ep + 1) t1 sb ⟨⟨_, ho1, ⟨hex.1, hex.2.1, hex.2.2⟩, rfl⟩, hin, nd1, ?_, q3.ris, ld1, by rw [hlen]; exact hfew, q3, by rw [List.length_map, hlen]; omega⟩ grown)
        unfold SetTable.fits SetTable.fill
        rw [q3.dm, Bool.and_eq_true, beq_iff_eq, decide_eq_true_eq]
        show t1.place.size = es1.size ∧ t1.place.size + 0 ≤ t1.mask
        rw [hsz1, hes]
        exact ⟨rfl, by omega⟩
    have next : ∀ b : Bool, wpAny (model P w) A (do
          storeSet a es1 (if b = true then t1 else { t1 with plain := false })
          if (!false && (if b = true then t1 else { t1 with plain := false }).tooFull) = true then setRelay a (SetTable.grown (es.size + 1))
          return true) Q E s := by
      intro b
      cases b
      · exact fin { t1 with plain := false } ⟨q3.ris, q3.dm, q3.sz, q3.mok, q3.bd, q3.reach⟩ q4 q5 q9
      · exact fin t1 q3 q4 q5 q9
    by_cases hpl : t1.plain = true
    · first
        | (refine wpAny_bind ?_; refine wp_if_pos hpl ?_; rw [hxa]; refine hashBy_nested 8 _ _ A E s _ hxn hxd fun b => ?_)
        | (refine wp_if_pos hpl ?_; refine wpAny_bind ?_; rw [hxa]; refine hashBy_nested 8 _ _ A E s _ hxn hxd fun b => ?_)
      exact next b
    · first
        | (refine wpAny_bind ?_; refine wp_if_neg hpl ?_; refine wpAny_pure ?_)
        | (refine wp_if_neg hpl ?_; refine wpAny_bind (wpAny_pure ?_))
      exact next true
end

/-! ### set(xs): the filling -/
structure GotK (ks : List Row) (i : Nat) (L : List Row) : Prop where
  sub : ∀ p ∈ L, p ∈ ks.take i
  all : ∀ p ∈ ks.take i, keyD p.2 ∈ L.map fun p => keyD p.2
  len : L.length ≤ i
theorem GotK.zero (ks : List Row) : GotK ks 0 [] := ⟨fun p h => (by cases h), fun p h => (by simp at h), Nat.le_refl _⟩
theorem GotK.next {ks L L' : List Row} {i : Nat} {x : Row} (g : GotK ks i L) (h : ks[i]? = some x) (gr : Grown x L L') : GotK ks (i + 1) L' := by
  rcases Classical.em (keyD x.2 ∈ L.map fun p => keyD p.2) with c | c
  · rw [gr.old c]
    refine ⟨fun p hp => ?_, fun p hp => ?_, Nat.le_succ_of_le g.len⟩
    · rw [take_next h]
      exact List.mem_append_left _ (g.sub p hp)
    · rw [take_next h] at hp
      rcases List.mem_append.mp hp with z | z
      · exact g.all p z
      · rw [List.mem_singleton.mp z]; exact c
  · have pm := gr.new c
    refine ⟨fun p hp => ?_, fun p hp => ?_, ?_⟩
    · rw [take_next h]
      rcases List.mem_cons.mp (pm.mem_iff.mp hp) with e | z
      · rw [e]; exact List.mem_append_right _ (List.mem_singleton.mpr rfl)
      · exact List.mem_append_left _ (g.sub p z)
    · rw [(pm.map fun p => keyD p.2).mem_iff, List.map_cons]
      rw [take_next h] at hp
      rcases List.mem_append.mp hp with z | z
      · exact List.mem_cons_of_mem _ (g.all p z)
      · rw [List.mem_singleton.mp z]; exact List.mem_cons_self
    · rw [pm.length_eq, List.length_cons]
      exact Nat.succ_le_succ g.len
/-- how one row is put in -/
def Adds (Z : SetTable → List Int → Prop) (P : Program) (w : World) (A : Around) (S : Addr) (h0 : Heap) (ks : List Row) : Prop := ∀ (E : Value → Shared → Prop) (Q : Bool → Shared → Prop) (s : Shared) (L : List Row) (es : Array (Int × Value)) (ep : Nat) (t : SetTable) (p : Row), p ∈ ks → (∀ q ∈ L, q ∈ ks) →
  (∀ b o, h0.get? b = some o → s.heap.get? b = some o) → SetK Z w s.heap S L es ep t → L.length + 1 < 64 →
  (∀ (b : Bool) (h' : Heap) (L' : List Row) (es' : Array (Int × Value)) (ep' : Nat) (t' : SetTable) (tk : Nat), s.toks ≤ tk → Heap.SameBut S s.heap h' → SetK Z w h' S L' es' ep' t' → Grown p L L' → Q b { s with heap := h', toks := tk }) →
  wpAny (model P w) A (setAdd S p.1) Q E s
section
variable {Z : SetTable → List Int → Prop} {P : Program} {w : World} {A : Around} {E : Value → Shared → Prop} {s : Shared}
theorem adds_text {S : Addr} {h0 : Heap} {ks : List Row} (g : AllX ks) : Adds ZX P w A S h0 ks := by
  intro E Q s L es ep t p hp hL _ R hf hQ
  obtain ⟨x, tk, rfl⟩ := g p hp
  unfold setAdd
  refine wpAny_holding ?_
  refine wpAny_bind ((strKind P w).pyHash (k := x) (x_key _ _) ?_)
  exact add_text (s := { s with toks := s.toks + 1 }) R (fun q hq => g q (hL q hq)) hf fun b h' L' es' ep' t' sb R' gr => hQ b h' L' es' ep' t' (s.toks + 1) (Nat.le_succ _) sb R' gr
theorem adds_tuple {S : Addr} {h0 : Heap} {ks : List Row} (g : ∀ p ∈ ks, IsK h0 p) (hu : A.units + 64 < cLine) : Adds ZT P w A S h0 ks := by
  intro E Q s L es ep t p hp hL hk R hf hQ
  have hx := (g p hp).keep hk
  obtain ⟨c, e, n, d⟩ := hx.ex
  unfold setAdd
  refine wpAny_holding ?_
  rw [e]
  refine wpAny_bind (pyHash_key _ _ A s _ n (by omega) ?_)
  rw [← e]
  exact add_tuple (s := { s with toks := s.toks + (keyD p.2).draws }) R (fun q hq => (g q (hL q hq)).keep hk) hx hu hf fun b h' L' es' ep' t' sb R' gr => hQ b h' L' es' ep' t' _ (Nat.le_add_right _ _) sb R' gr
theorem set_fill {I : Addr} {fp wr : List Addr} {G : Array GenState → Array GenState → Prop} {n : Nat} {Pv : Nat → Value → Prop} {St : Nat → Shared → Prop} {R : Result → Shared → Prop}
    (W : WalksS P w A.in1 I fp wr G n Pv St) (S : Addr) (hSf : S ∉ fp) (ks : List Row) (hn : n = ks.length) (hfew : ks.length < 64) (hval : ∀ i v, Pv i v → ∃ p, ks[i]? = some p ∧ v = p.1)
    (h0 : Heap) (hS0 : h0.get? S = none) (hw0 : ∀ b ∈ wr, h0.get? b = none) (hadd : Adds Z P w A.in1 S h0 ks) :
    ∀ (k i : Nat) (s : Shared), n - i = k → i ≤ n → St i s → (∀ b o, h0.get? b = some o → s.heap.get? b = some o) → (∃ L es ep t, SetK Z w s.heap S L es ep t ∧ GotK ks i L) →
      (∀ s' L es ep t, Moved (S :: wr) G s s' → SetK Z w s'.heap S L es ep t → GotK ks n L → (∀ b o, h0.get? b = some o → s'.heap.get? b = some o) → R (.ok (.ret .none)) s') →
      codeAny (model P w) A (.builtin "set.update.loop" ⟨[.ref S, .ref I], []⟩) R s := by
  have hSw : S ∉ wr := fun h => hSf (W.sub _ h)
  have hsub : ∀ b ∈ wr, b ∈ S :: wr := fun b hb => List.mem_cons_of_mem _ hb
  have keepM : ∀ {s s' : Shared}, Moved wr G s s' → (∀ b o, h0.get? b = some o → s.heap.get? b = some o) → ∀ b o, h0.get? b = some o → s'.heap.get? b = some o := fun hm hkp b o e =>
    hm.heap b o (fun hb => by rw [hw0 b hb] at e; cases e) (hkp b o e)
  intro k
  induction k with
  | zero =>
    intro i s hk' hi hst hkp ⟨L, es, ep, t, hS, g⟩ hR
    have hin : i = n := by omega
    subst hin
    refine codeAny_builtin F.entry_set_update_loop ?_
    rw [Around.under_plainId F.plain_set_update_loop _]
    show wpAny _ A.in1 (pyNext (.ref I) >>= _) _ _ s
    refine wpAny_bind (W.done s _ _ hst fun s' hm => ?_)
    show wpAny _ A.in1 (ret Value.none) _ _ s'
    exact wpAny_pure (hR s' L es ep t (hm.mono hsub) (hS.at fun o e => hm.heap S o hSw e) g (keepM hm hkp))
  | succ k ih =>
    intro i s hk' hi hst hkp ⟨L, es, ep, t, hS, g⟩ hR
    have hlt : i < n := by omega
    refine codeAny_builtin F.entry_set_update_loop ?_
    rw [Around.under_plainId F.plain_set_update_loop _]
    show wpAny _ A.in1 (pyNext (.ref I) >>= _) _ _ s
    refine wpAny_bind (W.item i s _ _ hlt hst fun v s' hP hst' hm => ?_)
    obtain ⟨p, hp, rfl⟩ := hval i v hP
    have hkp' := keepM hm hkp
    have hS' : SetK Z w s'.heap S L es ep t := hS.at fun o e => hm.heap S o hSw e
    show wpAny _ A.in1 (holding [p.1] (setAdd S p.1) >>= _) _ _ s'
    refine wpAny_bind (wpAny_holding ?_)
    refine hadd _ _ s' L es ep t p (List.mem_of_getElem? hp) (fun q hq => List.mem_of_mem_take (g.sub q hq)) hkp' hS' (by have := g.len; omega) fun b h' L' es' ep' t' tk htk hsb hS2 gr => ?_
    have hkp2 : ∀ b o, h0.get? b = some o → h'.get? b = some o := fun b o e => (hsb.2 b (fun z => by rw [z, hS0] at e; cases e)).trans (hkp' b o e)
    refine wpAny_pure ⟨plainId_quiet F.plain_set_update_loop _, ih (i + 1) _ (by omega) hlt (W.frame _ s' _ _ hst' htk fun b hb o e => ?_) hkp2 ⟨L', es', ep', t', hS2, g.next hp gr⟩ fun s'' L2 es2 ep2 t2 hm'' hS'' g'' hkp'' => ?_⟩
    · rw [hsb.2 b (fun h : b = S => hSf (by rw [← h]; exact hb))]; exact e
    · refine hR s'' L2 es2 ep2 t2 (Moved.trans W.gtrans ((hm.mono hsub).then_heap htk fun b o hb e => ?_) hm'') hS'' g'' hkp''
      rw [hsb.2 b (fun h : b = S => hb (by rw [h]; exact List.mem_cons_self))]; exact e
/-- a new set -/
theorem setK_fresh {h : Heap} {a : Addr} (hz : Z (.fresh 0 0 (!w.params.followText "set-order")) []) (ho : h.get? a = some { cls := .type "set", dict := none, data := .set #[] 0 (.fresh 0 0 (!w.params.followText "set-order")) }) : SetK Z w h a [] #[] 0 (.fresh 0 0 (!w.params.followText "set-order")) where
  ob := ⟨_, ho, ⟨rfl, rfl, rfl⟩, rfl⟩
  rows := rfl
  nd := List.nodup_nil
  fits := by rfl
  ris := List.Pairwise.nil
  led := by
    show _ ∨ (!w.params.followText "set-order") = true
    cases w.params.followText "set-order"
    · exact .inr rfl
    · exact .inl rfl
  few := by
    show 0 < 64
    decide
  z := hz
theorem zt_fresh {b : Bool} : ZT (.fresh 0 0 b) [] := ⟨⟨List.Pairwise.nil, rfl, rfl, .inl rfl, fun x hx => (by cases hx), fun i h j hi => (by simp at hi)⟩, by
  show 0 * 5 < 7 * 3
  decide⟩
set_option maxRecDepth 100000 in
set_option maxHeartbeats 3200000 in
/-- set(xs) -/
theorem call_set_k {l : Addr} {items : Array Value} (ks : List Row) {Q : Value → Shared → Prop} (hh : A.handled = none) (hl : s.heap.IsList l items) (hit : items.toList = ks.map fun p => p.1) (hfew : ks.length < 64)
    (hz : Z (.fresh 0 0 (!w.params.followText "set-order")) []) (hadd : ∀ A' : Around, A'.units ≤ A.units + 4 → Adds Z P w A' s.heap.objs.size s.heap ks)
    (h : ∀ (h' : Heap) (tk : Nat) L es ep t, SetK Z w h' s.heap.objs.size L es ep t → GotK ks ks.length L → (∀ b o, s.heap.get? b = some o → h'.get? b = some o) → Q (.ref s.heap.objs.size) { s with heap := h', toks := tk }) :
    wpAny (model P w) A (call (.type "set") [.ref l]) Q E s := by
  have hisz : items.size = ks.length := by
    have q := congrArg List.length hit
    rw [Array.length_toList, List.length_map] at q
    exact q
  obtain ⟨c, tl, hmro⟩ := F.called_set.mro
  have hmade := F.called_set.made
  have hsub := F.called_set.sub
  refine wpAny_call (codeAny_of_tree ?_)
  show wpAny _ _ (callAny (.type "set") _) _ _ _
  refine wpAny_pure ⟨Code.quiet_builtin _ (by decide +kernel), codeAny_builtin F.entry_type_call ?_⟩
  rw [Around.under_plain (weight_type_call_type "set" [.ref l] []) rfl]
  have h1 := F.called_set.notType
  have h2 := F.called_set.canCreate
  have hct := F.typeCall_set_1 (.ref l)
  repeat (any_goals (first | assumption | wp_step))

  refine codeAny_mono (code_set_led1 (.ref l) (E := E) (Q₁ := fun obj s₁ => obj = .ref s.heap.objs.size ∧ s₁ = { s with heap := s.heap.push { cls := .type "set", dict := none, data := .set #[] 0 (.fresh 0 0 (!w.params.followText "set-order")) } }) ⟨rfl, rfl⟩) fun r s₁ hr => ?_
  cases r with
  | error e => exact hr
  | ok fl =>
    cases fl with
    | ret obj =>
      obtain ⟨rfl, rfl⟩ := hr
      have hS : (s.heap.push { cls := .type "set", dict := none, data := .set #[] 0 (.fresh 0 0 (!w.params.followText "set-order")) }).get? s.heap.objs.size = some { cls := .type "set", dict := none, data := .set #[] 0 (.fresh 0 0 (!w.params.followText "set-order")) } := Heap.get?_push_size _ rfl
      have hT : Shared.TypeIs { s with heap := s.heap.push { cls := .type "set", dict := none, data := .set #[] 0 (.fresh 0 0 (!w.params.followText "set-order")) } } (.ref s.heap.objs.size) "set" := ⟨_, hS, rfl⟩
      have hli := F.called_set.init.lookup
      have hbi := F.called_set.init.bind (.ref s.heap.objs.size)
      repeat (any_goals (first | assumption | wp_step))

      refine codeAny_mono (codeAny_call_builtin (R := wants (fun r s₂ => r = .none ∧ ∃ h' tk L es ep t, s₂ = { s with heap := h', toks := tk } ∧ SetK Z w h' s.heap.objs.size L es ep t ∧ GotK ks ks.length L ∧
          (∀ b o, s.heap.get? b = some o → h'.get? b = some o)) E) F.called_set.init.plain F.entry_set_init (check_set_init_1 hT ?_)) fun r₂ s₂ hr₂ => ?_
      · obtain ⟨ol, hol, hcl, nl, hdl⟩ := hl
        obtain ⟨ocls, odict, odata, oslots⟩ := ol
        simp only at hcl hdl
        subst hcl; subst hdl
        have hol' : (s.heap.push { cls := .type "set", dict := none, data := .set #[] 0 (.fresh 0 0 (!w.params.followText "set-order")) }).get? l = some { cls := .type "list", dict := odict, data := .seq items nl, slots := oslots } := Heap.get?_push_of_some _ hol
        have hsls := F.sub_list_set
        have hslf := F.sub_list_frozenset
        have hne : (Value.type "list" == Value.type "dict") = false := by decide
        have hl1 : (s.heap.push { cls := .type "set", dict := none, data := .set #[] 0 (.fresh 0 0 (!w.params.followText "set-order")) }).IsList l items := ⟨_, hol', rfl, nl, rfl⟩
        unfold Builtin.«set.__init__» noKeywords Builtin.Frozenset.updateFrom
        generalize hPI : pyIter = PI
        wp_walk
        subst hPI

        refine wpAny_pyIter_list hl1 ?_
        refine wpAny_bind (wpAny_runValue ?_)
        have hlS : l < s.heap.objs.size := Heap.lt_size hol
        have hh3 : A.in1.in1.in1.handled = none := by simp [hh]
        have hz1 : (s.heap.push { cls := .type "set", dict := none, data := .set #[] 0 (.fresh 0 0 (!w.params.followText "set-order")) }).objs.size = s.heap.objs.size + 1 := Heap.size_push ..
        have hneI : l ≠ (s.heap.push { cls := .type "set", dict := none, data := .set #[] 0 (.fresh 0 0 (!w.params.followText "set-order")) }).objs.size := by
          rw [Heap.size_push]; exact Nat.ne_of_lt (Nat.lt_succ_of_lt hlS)
        have hSf : s.heap.objs.size ∉ [(s.heap.push { cls := .type "set", dict := none, data := .set #[] 0 (.fresh 0 0 (!w.params.followText "set-order")) }).objs.size, l] := by
          rw [Heap.size_push]; simp only [List.mem_cons, List.mem_singleton, List.not_mem_nil, or_false, not_or]
          exact ⟨Nat.ne_of_lt (Nat.lt_succ_self _), Nat.ne_of_gt hlS⟩
        have hval : ∀ (i : Nat) (v : Value), items[i]? = some v → ∃ p, ks[i]? = some p ∧ v = p.1 := fun i v hv => by
          have q : items.toList[i]? = some v := by rw [Array.getElem?_toList]; exact hv
          rw [hit, List.getElem?_map] at q
          cases hq : ks[i]? with
          | none => rw [hq] at q; cases q
          | some p =>
            rw [hq] at q
            exact ⟨p, rfl, (Option.some.inj q).symm⟩
        have none_of : ∀ b, s.heap.objs.size ≤ b → s.heap.get? b = none := fun b hb => by
          cases q : s.heap.get? b with
          | none => rfl
          | some o => exact absurd (Nat.lt_of_lt_of_le (Heap.lt_size q) hb) (Nat.lt_irrefl _)
        refine set_fill ((Walks.list hh3 _ l hneI items).toS) s.heap.objs.size
          hSf ks hisz hfew hval s.heap (none_of _ (Nat.le_refl _)) (fun b hb => none_of b (by
            rw [List.mem_singleton.mp hb, Heap.size_push]
            exact Nat.le_succ _)) (hadd _ ?hU) (items.size - 0) 0 _ (by omega) (Nat.zero_le _)
          ⟨⟨_, Heap.get?_push_size _ rfl, rfl, rfl⟩, (hl1.push _)⟩ (fun b o e => Heap.get?_push_of_some _ (Heap.get?_push_of_some _ e)) ?hS0 ?hR
        case hU =>
          simp only [Around.in1_units]
          omega
        case hS0 =>
          have hget : ((s.heap.push { cls := .type "set", dict := none, data := .set #[] 0 (.fresh 0 0 (!w.params.followText "set-order")) }).push { cls := .type "list_iterator", data := .fields #[.ref l, .int 0 0] }).get? s.heap.objs.size
              = some { cls := .type "set", dict := none, data := .set #[] 0 (.fresh 0 0 (!w.params.followText "set-order")) } := Heap.get?_push_of_some _ hS
          exact ⟨[], #[], 0, _, setK_fresh hz hget, GotK.zero ks⟩
        case hR =>
          intro s' L es ep t hm hS' g' hkp
          obtain ⟨h', g2, d', tk', os'⟩ := s'
          have eg : g2 = s.gens := hm.gens
          have ed : d' = s.drawn := hm.drawn
          have eo : os' = s.os := hm.os
          subst eg; subst ed; subst eo
          show wpAny _ _ _ _ _ _
          refine wpAny_pure ?_
          show wpAny _ _ (ret Value.none) _ _ _
          rw [hisz] at g'
          exact wpAny_pure ⟨rfl, h', tk', L, es, ep, t, rfl, hS', g', hkp⟩

      · cases r₂ with
        | error e => exact hr₂
        | ok fl₂ =>
          cases fl₂ with
          | ret r =>
            obtain ⟨rfl, h', tk, L, es, ep, t, rfl, hS', g', hk'⟩ := hr₂
            repeat (any_goals (first | assumption | wp_step))
            exact h _ _ _ _ _ _ hS' g' hk'
          | _ => exact hr₂.elim
    | _ => exact hr.elim
end
end Fm
set_option maxHeartbeats 4000000
/-! FmST: set(tuple). -/
namespace Fm
open PySem PySem.Spec PyProof.Rows L2
section
variable {Z : SetTable → List Int → Prop} {P : Program} {w : World} {A : Around} {E : Value → Shared → Prop} {s : Shared}
set_option maxRecDepth 100000 in
set_option maxHeartbeats 3200000 in
/-- set(xs), xs a tuple -/
theorem call_set_kt {l : Addr} {items : Array Value} (ks : List Row) {Q : Value → Shared → Prop} (hh : A.handled = none) (hl : s.heap.IsTuple l items) (hit : items.toList = ks.map fun p => p.1) (hfew : ks.length < 64)
    (hz : Z (.fresh 0 0 (!w.params.followText "set-order")) []) (hadd : ∀ A' : Around, A'.units ≤ A.units + 4 → Adds Z P w A' s.heap.objs.size s.heap ks)
    (h : ∀ (h' : Heap) (tk : Nat) L es ep t, SetK Z w h' s.heap.objs.size L es ep t → GotK ks ks.length L → (∀ b o, s.heap.get? b = some o → h'.get? b = some o) → Q (.ref s.heap.objs.size) { s with heap := h', toks := tk }) :
    wpAny (model P w) A (call (.type "set") [.ref l]) Q E s := by
  have hisz : items.size = ks.length := by
    have q := congrArg List.length hit
    rw [Array.length_toList, List.length_map] at q
    exact q
  obtain ⟨c, tl, hmro⟩ := F.called_set.mro
  have hmade := F.called_set.made
  have hsub := F.called_set.sub
  refine wpAny_call (codeAny_of_tree ?_)
  show wpAny _ _ (callAny (.type "set") _) _ _ _
  refine wpAny_pure ⟨Code.quiet_builtin _ (by decide +kernel), codeAny_builtin F.entry_type_call ?_⟩
  rw [Around.under_plain (weight_type_call_type "set" [.ref l] []) rfl]
  have h1 := F.called_set.notType
  have h2 := F.called_set.canCreate
  have hct := F.typeCall_set_1 (.ref l)
  repeat (any_goals (first | assumption | wp_step))

  refine codeAny_mono (code_set_led1 (.ref l) (E := E) (Q₁ := fun obj s₁ => obj = .ref s.heap.objs.size ∧ s₁ = { s with heap := s.heap.push { cls := .type "set", dict := none, data := .set #[] 0 (.fresh 0 0 (!w.params.followText "set-order")) } }) ⟨rfl, rfl⟩) fun r s₁ hr => ?_
  cases r with
  | error e => exact hr
  | ok fl =>
    cases fl with
    | ret obj =>
      obtain ⟨rfl, rfl⟩ := hr
      have hS : (s.heap.push { cls := .type "set", dict := none, data := .set #[] 0 (.fresh 0 0 (!w.params.followText "set-order")) }).get? s.heap.objs.size = some { cls := .type "set", dict := none, data := .set #[] 0 (.fresh 0 0 (!w.params.followText "set-order")) } := Heap.get?_push_size _ rfl
      have hT : Shared.TypeIs { s with heap := s.heap.push { cls := .type "set", dict := none, data := .set #[] 0 (.fresh 0 0 (!w.params.followText "set-order")) } } (.ref s.heap.objs.size) "set" := ⟨_, hS, rfl⟩
      have hli := F.called_set.init.lookup
      have hbi := F.called_set.init.bind (.ref s.heap.objs.size)
      repeat (any_goals (first | assumption | wp_step))

      refine codeAny_mono (codeAny_call_builtin (R := wants (fun r s₂ => r = .none ∧ ∃ h' tk L es ep t, s₂ = { s with heap := h', toks := tk } ∧ SetK Z w h' s.heap.objs.size L es ep t ∧ GotK ks ks.length L ∧
          (∀ b o, s.heap.get? b = some o → h'.get? b = some o)) E) F.called_set.init.plain F.entry_set_init (check_set_init_1 hT ?_)) fun r₂ s₂ hr₂ => ?_
      · obtain ⟨ol, hol, hcl, nl, hdl⟩ := hl
        obtain ⟨ocls, odict, odata, oslots⟩ := ol
        simp only at hcl hdl
        subst hcl; subst hdl
        have hol' : (s.heap.push { cls := .type "set", dict := none, data := .set #[] 0 (.fresh 0 0 (!w.params.followText "set-order")) }).get? l = some { cls := .type "tuple", dict := odict, data := .seq items nl, slots := oslots } := Heap.get?_push_of_some _ hol
        have hsls := F.sub_tuple_set
        have hslf := F.sub_tuple_frozenset
        have hne : (Value.type "tuple" == Value.type "dict") = false := by decide
        have hl1 : (s.heap.push { cls := .type "set", dict := none, data := .set #[] 0 (.fresh 0 0 (!w.params.followText "set-order")) }).IsTuple l items := ⟨_, hol', rfl, nl, rfl⟩
        unfold Builtin.«set.__init__» noKeywords Builtin.Frozenset.updateFrom
        generalize hPI : pyIter = PI
        wp_walk
        subst hPI

        refine wpAny_pyIter_tuple hl1 ?_
        refine wpAny_bind (wpAny_runValue ?_)
        have hlS : l < s.heap.objs.size := Heap.lt_size hol
        have hh3 : A.in1.in1.in1.handled = none := by simp [hh]
        have hz1 : (s.heap.push { cls := .type "set", dict := none, data := .set #[] 0 (.fresh 0 0 (!w.params.followText "set-order")) }).objs.size = s.heap.objs.size + 1 := Heap.size_push ..
        have hneI : l ≠ (s.heap.push { cls := .type "set", dict := none, data := .set #[] 0 (.fresh 0 0 (!w.params.followText "set-order")) }).objs.size := by
          rw [Heap.size_push]; exact Nat.ne_of_lt (Nat.lt_succ_of_lt hlS)
        have hSf : s.heap.objs.size ∉ [(s.heap.push { cls := .type "set", dict := none, data := .set #[] 0 (.fresh 0 0 (!w.params.followText "set-order")) }).objs.size, l] := by
          rw [Heap.size_push]; simp only [List.mem_cons, List.mem_singleton, List.not_mem_nil, or_false, not_or]
          exact ⟨Nat.ne_of_lt (Nat.lt_succ_self _), Nat.ne_of_gt hlS⟩
        have hval : ∀ (i : Nat) (v : Value), items[i]? = some v → ∃ p, ks[i]? = some p ∧ v = p.1 := fun i v hv => by
          have q : items.toList[i]? = some v := by rw [Array.getElem?_toList]; exact hv
          rw [hit, List.getElem?_map] at q
          cases hq : ks[i]? with
          | none => rw [hq] at q; cases q
          | some p =>
            rw [hq] at q
            exact ⟨p, rfl, (Option.some.inj q).symm⟩
        have none_of : ∀ b, s.heap.objs.size ≤ b → s.heap.get? b = none := fun b hb => by
          cases q : s.heap.get? b with
          | none => rfl
          | some o => exact absurd (Nat.lt_of_lt_of_le (Heap.lt_size q) hb) (Nat.lt_irrefl _)
        refine set_fill ((Walks.tuple hh3 _ l hneI items).toS) s.heap.objs.size
          hSf ks hisz hfew hval s.heap (none_of _ (Nat.le_refl _)) (fun b hb => none_of b (by
            rw [List.mem_singleton.mp hb, Heap.size_push]
            exact Nat.le_succ _)) (hadd _ ?hU) (items.size - 0) 0 _ (by omega) (Nat.zero_le _)
          ⟨⟨_, Heap.get?_push_size _ rfl, rfl, rfl⟩, (hl1.push _)⟩ (fun b o e => Heap.get?_push_of_some _ (Heap.get?_push_of_some _ e)) ?hS0 ?hR
        case hU =>
          simp only [Around.in1_units]
          omega
        case hS0 =>
          have hget : ((s.heap.push { cls := .type "set", dict := none, data := .set #[] 0 (.fresh 0 0 (!w.params.followText "set-order")) }).push { cls := .type "tuple_iterator", data := .fields #[.ref l, .int 0 0] }).get? s.heap.objs.size
              = some { cls := .type "set", dict := none, data := .set #[] 0 (.fresh 0 0 (!w.params.followText "set-order")) } := Heap.get?_push_of_some _ hS
          exact ⟨[], #[], 0, _, setK_fresh hz hget, GotK.zero ks⟩
        case hR =>
          intro s' L es ep t hm hS' g' hkp
          obtain ⟨h', g2, d', tk', os'⟩ := s'
          have eg : g2 = s.gens := hm.gens
          have ed : d' = s.drawn := hm.drawn
          have eo : os' = s.os := hm.os
          subst eg; subst ed; subst eo
          show wpAny _ _ _ _ _ _
          refine wpAny_pure ?_
          show wpAny _ _ (ret Value.none) _ _ _
          rw [hisz] at g'
          exact wpAny_pure ⟨rfl, h', tk', L, es, ep, t, rfl, hS', g', hkp⟩

      · cases r₂ with
        | error e => exact hr₂
        | ok fl₂ =>
          cases fl₂ with
          | ret r =>
            obtain ⟨rfl, h', tk, L, es, ep, t, rfl, hS', g', hk'⟩ := hr₂
            repeat (any_goals (first | assumption | wp_step))
            exact h _ _ _ _ _ _ hS' g' hk'
          | _ => exact hr₂.elim
    | _ => exact hr.elim
end
end Fm
set_option maxHeartbeats 4000000
/-! FmS2: set(xs), sorted(set), len(set) over the layer. -/
namespace Fm
open PySem PySem.Spec PyProof.Rows L2
theorem pigeon {α : Type} [DecidableEq α] : ∀ (l D : List α), l.Nodup → (∀ x ∈ l, x ∈ D) → l.length ≤ D.length
  | [], _, _, _ => Nat.zero_le _
  | x :: l, D, hn, hs => by
    obtain ⟨h1, h2⟩ := List.nodup_cons.mp hn
    have hx : x ∈ D := hs x List.mem_cons_self
    have ih := pigeon l (D.erase x) h2 fun y hy => (List.mem_erase_of_ne fun (e : y = x) => h1 (e ▸ hy)).2 (hs y (List.mem_cons_of_mem _ hy))
    have e := List.length_erase_of_mem hx
    have hp : 0 < D.length := List.length_pos_of_mem hx
    rw [List.length_cons]
    omega
structure SetAll (w : World) (h : Heap) (a : Addr) (xs : List V) (us : List Value) (es : Array (Int × Value)) (ep : Nat) (t : SetTable) : Prop where
  ob : ∃ o, h.get? a = some o ∧ o.ExactSet ∧ o.data = .set es ep t
  rows : es.toList.map (·.2) = us
  vals : Vals xs us
  few : xs.length < 64
  fits : t.fits es.size = true
  ris : Ris t.place.toList
  led : w.params.followText "set-order" = true ∨ t.led = true
/-- the set at a has the members xs -/
def SetB (w : World) (a : Addr) (xs : List V) : HO := .ext fun h => ∃ us es ep t, SetAll w h a xs us es ep t
theorem SetAll.at {w : World} {h h' : Heap} {a : Addr} {xs : List V} {us : List Value} {es : Array (Int × Value)} {ep : Nat} {t : SetTable} (R : SetAll w h a xs us es ep t) (k : ∀ o, h.get? a = some o → h'.get? a = some o) : SetAll w h' a xs us es ep t := by
  obtain ⟨o, ho, r⟩ := R.ob
  exact ⟨⟨o, k o ho, r⟩, R.rows, R.vals, R.few, R.fits, R.ris, R.led⟩
theorem setB_new {P : Program} {w : World} {H : Hp} {h : Heap} {a : Addr} {xs : List V} {us : List Value} {es : Array (Int × Value)} {ep : Nat} {t : SetTable} (R : SetAll w h a xs us es ep t) : ObjOk P w H h a (SetB w a xs) := by
  have ⟨o, ho, r⟩ := R.ob
  exact ⟨⟨us, es, ep, t, R⟩, ⟨o, ho⟩, fun h1 h2 ⟨us, es, ep, t, p⟩ k => ⟨us, es, ep, t, p.at k⟩⟩
/-- what set() takes -/
structure Hset (ds : List PyData) : Prop where
  few : ds.length < 64
  kind : (∃ xs : List Str, ds = xs.map .str) ∨ ∀ d ∈ ds, ∃ es, d = .tuple es ∧ hashd d = true ∧ (keyD d).depth ≤ 8
/-- es: the members of ds, each once -/
structure Uniq (ds es : List PyData) : Prop where
  sub : ∀ d ∈ es, d ∈ ds
  all : ∀ d ∈ ds, keyD d ∈ es.map keyD
  nd : (es.map keyD).Nodup
def rSet (K : PySem.W.Frag) (w : World) : List V → Hp → VK → Prop := fun vs H Q => ∃ (G : Hp) (l : Addr) (xs : List V) (ds : List PyData), vs = [.ref l] ∧ Same G H ∧ (SqL K H l xs ∨ SqT K H l xs) ∧ DpAll K G xs ds ∧ Hset ds ∧
  ∀ (a : Addr) (ys : List V) (es : List PyData), H a = none → DpAll K G ys es → Uniq ds es → Q (.ref a) (upd H a (SetB w a ys))
theorem rows_back {K : PySem.W.Frag} {H : Hp} : ∀ {L : List Row}, (∀ p ∈ L, ∃ v, RelV v p.1 ∧ Dp K H v p.2) → ∃ xs, Vals xs (L.map (·.1)) ∧ DpAll K H xs (L.map (·.2))
  | [], _ => ⟨[], .nil, .nil⟩
  | p :: L, h => by
    obtain ⟨v, a, b⟩ := h p List.mem_cons_self
    obtain ⟨xs, c, d⟩ := rows_back fun q hq => h q (List.mem_cons_of_mem _ hq)
    exact ⟨v :: xs, .cons a c, .cons b d⟩
theorem zip_rows {K : PySem.W.Frag} {H : Hp} : ∀ {xs : List V} {ds : List PyData} {us : List Value}, DpAll K H xs ds → Vals xs us → ∀ p ∈ us.zip ds, ∃ v, RelV v p.1 ∧ Dp K H v p.2
  | _, _, _, .nil, .nil, p, m => by cases m
  | _, _, _, .cons a t, .cons r q, p, m => by
    rcases List.mem_cons.mp m with e | m
    · rw [e]; exact ⟨_, r, a⟩
    · exact zip_rows t q p m
theorem zip_of {us : List Value} {ds : List PyData} (h : us.length = ds.length) : (us.zip ds).map (·.1) = us ∧ (us.zip ds).map (·.2) = ds := ⟨List.map_fst_zip (Nat.le_of_eq h), List.map_snd_zip (Nat.le_of_eq h.symm)⟩
theorem SetK.full {Z : SetTable → List Int → Prop} {w : World} {h : Heap} {a : Addr} {L : List Row} {es : Array (Int × Value)} {ep : Nat} {t : SetTable} (R : SetK Z w h a L es ep t) {xs : List V} (hv : Vals xs (L.map (·.1))) : SetAll w h a xs (L.map (·.1)) es ep t where
  ob := R.ob
  rows := by
    rw [R.rows]
    unfold rowsK
    rw [List.map_map] <;> rfl
  vals := hv
  few := by
    have h1 := hv.length
    have h2 := R.few
    rw [List.length_map] at h1
    omega
  fits := R.fits
  ris := R.ris
  led := R.led
theorem call_set_any {Z : SetTable → List Int → Prop} {P : Program} {w : World} {A : Around} {E : Value → Shared → Prop} {s : Shared} {l : Addr} {items : Array Value} (ks : List Row) {Q : Value → Shared → Prop} (hh : A.handled = none) (hl : s.heap.IsList l items ∨ s.heap.IsTuple l items) (hit : items.toList = ks.map fun p => p.1) (hfew : ks.length < 64)
    (hz : Z (.fresh 0 0 (!w.params.followText "set-order")) []) (hadd : ∀ A' : Around, A'.units ≤ A.units + 4 → Adds Z P w A' s.heap.objs.size s.heap ks)
    (h : ∀ (h' : Heap) (tk : Nat) L es ep t, SetK Z w h' s.heap.objs.size L es ep t → GotK ks ks.length L → (∀ b o, s.heap.get? b = some o → h'.get? b = some o) → Q (.ref s.heap.objs.size) { s with heap := h', toks := tk }) :
    wpAny (model P w) A (call (.type "set") [.ref l]) Q E s := hl.elim (fun hl => call_set_k ks hh hl hit hfew hz hadd h) fun hl => call_set_kt ks hh hl hit hfew hz hadd h
section
variable {X : Cx}
theorem cr_set (hc : X.calm = true) (hu : X.A.units + 72 < cLine) : CallR X (.type "set") (rSet X.K X.w) := by
  intro pins s σ H vs us Q I r h
  obtain ⟨G, l, xs, ds, rfl, sg, hl, hd, S, q⟩ := h
  rw [Vals.ref1 r]
  obtain ⟨its, rv, pl⟩ : ∃ its, Vals xs its ∧ (s.heap.IsList l its.toArray ∨ s.heap.IsTuple l its.toArray) := by
    rcases hl with hl | hl
    · obtain ⟨its, rv, pl, hz⟩ := I.list hl
      exact ⟨its, rv, .inl pl.isList⟩
    · obtain ⟨its, rv, pl, hz⟩ := I.tuple hl
      exact ⟨its, rv, .inr pl⟩
  have hn : H s.heap.objs.size = none := I.hok.fresh (Nat.le_refl _)
  have hlen : its.length = ds.length := by rw [← rv.length, dalen hd]
  obtain ⟨z1, z2⟩ := zip_of hlen
  have hrows := zip_rows hd rv
  have hfew : (its.zip ds).length < 64 := by
    have := S.few
    rw [List.length_zip]
    omega
  have fin : ∀ {Z : SetTable → List Int → Prop} (h' : Heap) (tk : Nat) (L : List Row) es ep t, SetK Z X.w h' s.heap.objs.size L es ep t → GotK (its.zip ds) (its.zip ds).length L → (∀ b o, s.heap.get? b = some o → h'.get? b = some o) →
      ∃ (v' : V) (H' : Hp), Inv X pins σ H' { s with heap := h', toks := tk } ∧ RelV v' (.ref s.heap.objs.size) ∧ Q v' H' := by
    intro Z h' tk L es ep t R g k
    have sub : ∀ p ∈ L, p ∈ its.zip ds := fun p hp => List.mem_of_mem_take (g.sub p hp)
    obtain ⟨ys, y1, y2⟩ := rows_back (K := X.K) (H := G) (L := L) fun p hp => hrows p (sub p hp)
    refine ⟨.ref s.heap.objs.size, upd H s.heap.objs.size (SetB X.w s.heap.objs.size ys), I.laid (t' := tk) k (Nat.le_refl _) (setB_new (R.full y1)), rfl, q _ ys _ hn y2 ⟨fun d hd => ?_, fun d hd => ?_, ?_⟩⟩
    · obtain ⟨p, hp, rfl⟩ := List.mem_map.mp hd
      rw [← z2]
      exact List.mem_map.mpr ⟨p, sub p hp, rfl⟩
    · rw [← z2] at hd
      obtain ⟨p, hp, rfl⟩ := List.mem_map.mp hd
      have e := g.all p (by rw [List.take_length]; exact hp)
      rw [List.map_map]
      exact e
    · rw [List.map_map]
      exact R.nd
  rcases S.kind with ⟨ws, e⟩ | hk
  · refine call_set_any (P := X.prog) (w := X.w) (Z := ZX) (its.zip ds) (I.ok.hd hc) pl (by simpa using z1.symm) hfew True.intro (fun A' _ => adds_text fun p hp => ?_) fun h' tk L es ep t R g k => fin h' tk L es ep t R g k
    obtain ⟨v, r1, r2⟩ := hrows p hp
    have m : p.2 ∈ ds := by rw [← z2]; exact List.mem_map.mpr ⟨p, hp, rfl⟩
    rw [e] at m
    obtain ⟨x, _, ex⟩ := List.mem_map.mp m
    rw [← ex] at r2
    rw [dp_str r2] at r1
    obtain ⟨t, e1⟩ := r1
    exact ⟨x, t, Prod.ext e1 ex.symm⟩
  · refine call_set_any (P := X.prog) (w := X.w) (Z := ZT) (its.zip ds) (I.ok.hd hc) pl (by simpa using z1.symm) hfew zt_fresh (fun A' hA => adds_tuple (fun p hp => ?_) (by omega)) fun h' tk L es ep t R g k => fin h' tk L es ep t R g k
    obtain ⟨v, r1, r2⟩ := hrows p hp
    have m : p.2 ∈ ds := by rw [← z2]; exact List.mem_map.mpr ⟨p, hp, rfl⟩
    obtain ⟨es, e1, e2, e3⟩ := hk _ m
    have ne := nested_of I p.2 v p.1 e2 (dsame r2 sg) r1
    rw [e1] at r2
    obtain ⟨c, xs', ev, _, _⟩ := dp_tup r2
    rw [ev] at r1
    have r1' : p.1 = Value.ref c := r1
    exact ⟨c, r1', by rw [← r1']; exact ne, e3⟩
/-- sorted(set) -/
def rSortS (K : PySem.W.Frag) (w : World) : List V → Hp → VK → Prop := fun vs H Q => ∃ (G : Hp) (a : Addr) (xs : List V) (ds : List PyData), vs = [.ref a] ∧ Same G H ∧ H a = some (SetB w a xs) ∧ DpAll K G xs ds ∧ Srtb ds ∧
  ∀ (es : List PyData) (ys : List V) (p : Addr), es.Perm ds → DpAll K G ys (srt es) → H p = none → Q (.ref p) (upd H p (.lst ys))
theorem vals_perm : ∀ {us ws : List Value}, us.Perm ws → ∀ {xs : List V} {ds : List PyData} {K : PySem.W.Frag} {H : Hp}, Vals xs us → DpAll K H xs ds → ∃ ys es, es.Perm ds ∧ Vals ys ws ∧ DpAll K H ys es := by
  intro us ws h
  induction h with
  | nil => intro xs ds K H v d; cases v; cases d; exact ⟨[], [], List.Perm.refl _, .nil, .nil⟩
  | cons x _ ih =>
    intro xs ds K H v d
    cases v with
    | cons v1 v2 =>
      cases d with
      | cons d1 d2 =>
        obtain ⟨ys, es, a, b, c⟩ := ih v2 d2
        exact ⟨_ :: ys, _ :: es, a.cons _, .cons v1 b, .cons d1 c⟩
  | swap x y l =>
    intro xs ds K H v d
    cases v with
    | cons v1 v2 =>
      cases v2 with
      | cons v3 v4 =>
        cases d with
        | cons d1 d2 =>
          cases d2 with
          | cons d3 d4 => exact ⟨_, _, List.Perm.swap _ _ _, .cons v3 (.cons v1 v4), .cons d3 (.cons d1 d4)⟩
  | trans _ _ ih1 ih2 =>
    intro xs ds K H v d
    obtain ⟨ys, es, a, b, c⟩ := ih1 v d
    obtain ⟨zs, fs, a2, b2, c2⟩ := ih2 b c
    exact ⟨zs, fs, a2.trans a, b2, c2⟩
theorem Srtb.perm {ds es : List PyData} (S : Srtb ds) (h : es.Perm ds) : Srtb es where
  al := fun d hd e he => S.al d (h.mem_iff.mp hd) e (h.mem_iff.mp he)
  so := S.so.imp (fun f d hd => f d (h.mem_iff.mp hd)) fun f d hd => f d (h.mem_iff.mp hd)
  few := by rw [h.length_eq]; exact S.few
  dp := fun d hd => S.dp d (h.mem_iff.mp hd)
theorem Srtb.sub {ds es : List PyData} (S : Srtb ds) (h : ∀ d ∈ es, d ∈ ds) (hl : es.length ≤ 100000) : Srtb es where
  al := fun d hd e he => S.al d (h d hd) e (h e he)
  so := S.so.imp (fun f d hd => f d (h d hd)) fun f d hd => f d (h d hd)
  few := hl
  dp := fun d hd => S.dp d (h d hd)
theorem cr_sortS (hc : X.calm = true) (hu : X.A.units + 64 < cLine) : CallR X (.builtin "sorted") (rSortS X.K X.w) := by
  intro pins s σ H vs us Q I r h
  obtain ⟨G, a, xs, ds, rfl, sg, ha, hd, S, q⟩ := h
  have ⟨us, es, ep, t, R⟩ : ∃ us es ep t, SetAll X.w s.heap a xs us es ep t := (I.hok a _ ha).1
  rw [Vals.ref1 r]
  obtain ⟨o, ho, hex, hdt⟩ := R.ob
  have hsz : es.size = us.length := by rw [← R.rows, List.length_map, Array.length_toList]
  have hxl := R.vals.length
  have hfew := R.few
  refine Calls.call_function_entry kind_sorted plain_sorted entry_sorted (args_sorted1 _) ?_
  unfold Builtin.«sorted»
  refine wpAny_bind (m := checkCount "sorted" 1 1 _) (wpAny_pure ?_)
  refine wpAny_bind (collect_set (A := X.A.in1) (by simpa using I.ok.hd hc) ⟨o, ho, hex.1, hdt⟩ R.fits (by unfold scanBound; omega) R.ris R.led fun s1 vs k1 hz g1 o1 pm => ?_)
  rw [R.rows] at pm
  obtain ⟨ys, ds', pd, vy, dy⟩ := vals_perm pm.symm R.vals hd
  have S' := S.perm pd
  have hvl : vs.length < 64 := by rw [pm.length_eq]; omega
  refine wpAny_bind (wpAny_newList ?_ (by rw [sizeLine_eq]; omega))
  have hoL : (s1.heap.push (seqObj "list" vs.toArray 0)).get? s1.heap.objs.size = some (seqObj "list" vs.toArray 0) := Heap.get?_push_size _ rfl
  have e1 := each_of_dp dy vy
  have hle := dalen dy
  have hm : (ys.zip ds').map Prod.snd = ds' := zip_snd hle
  have hbl : (ys.zip ds').length = ds'.length := by rw [List.length_zip]; omega
  have hvz : vs.length = ds'.length := by rw [← vy.length, hle]
  have keep : ∀ b o, s.heap.get? b = some o → (PySem.W.sortingHeap (s1.heap.push (seqObj "list" vs.toArray 0)) s1.heap.objs.size vs).get? b = some o := fun b o q => by
    have q1 := k1 b o q
    have hlt := Heap.lt_size q1
    exact PySem.W.sortingHeap_old (Nat.ne_of_lt hlt) (Heap.get?_push_of_some _ q1)
  have er : PySem.W.EachIs (fun u (b : V × PyData) => ∃ as, Reads (PySem.W.sortingHeap (s1.heap.push (seqObj "list" vs.toArray 0)) s1.heap.objs.size vs) u b.2 as) vs (ys.zip ds') := e1.mono fun u b hb => by
    obtain ⟨as, ra⟩ := Dp.reads I b.2 b.1 u (dsame hb.2 sg) hb.1
    exact ⟨as, PyProof.Rows.Reads.keeps keep ra⟩
  have hal : PySem.W.AllAlike ((ys.zip ds').map Prod.snd) := by rw [hm]; exact S'.al
  have hsr : PySem.W.Sortable ((ys.zip ds').map Prod.snd) := by rw [hm]; exact S'.so
  refine wpAny_bind (wpAny_holding (wpAny_call_entry slot_list_sort ⟨_, hoL, rfl⟩ entry_list_sort (PySem.W.list_sort_vals (s := { s1 with heap := s1.heap.push (seqObj "list" vs.toArray 0) }) (κ := PySem.W.dataKind (PySem.W.sortingHeap (s1.heap.push (seqObj "list" vs.toArray 0)) s1.heap.objs.size vs) ((ys.zip ds').map Prod.snd)) hoL
    (PySem.W.SortsAt.data (s := { s1 with heap := PySem.W.sortingHeap (s1.heap.push (seqObj "list" vs.toArray 0)) s1.heap.objs.size vs }) (PySem.W.each_map (R := fun v d => ∃ as, Reads (PySem.W.sortingHeap (s1.heap.push (seqObj "list" vs.toArray 0)) s1.heap.objs.size vs) v d as) Prod.snd er) hal hsr (PySem.W.bound_map fun b hb => ?_)) (by rw [hvz, ← hvz, sizeLine_eq]; omega) ⟨_, rfl, ?_⟩) (args_list_sort _)))
  · have hb2 : b.2 ∈ ds' := by rw [← hm]; exact List.mem_map.mpr ⟨b, hb, rfl⟩
    have := S'.dp _ hb2
    simp only [Around.in1_units]
    omega
  · have eo := PySem.W.sortVals_data (enc := (Prod.snd : V × PyData → PyData)) false e1 er hal
    generalize hout : PySem.W.sortVals (PySem.W.dataKind (PySem.W.sortingHeap (s1.heap.push (seqObj "list" vs.toArray 0)) s1.heap.objs.size vs) ((ys.zip ds').map Prod.snd)) false vs vs = out at eo ⊢
    obtain ⟨v1, v2⟩ := vals_of_each eo
    have es : ((ys.zip ds').mergeSort (PySem.W.dataLe false Prod.snd)).map Prod.snd = srt ds' := by
      have e0 := PySem.W.sort_maps (r := PySem.W.dataLe false (Prod.snd : V × PyData → PyData)) (s := PySem.W.dataLe false id) (l := ys.zip ds') Prod.snd fun _ _ _ _ => rfl
      rw [hm] at e0
      exact e0
    rw [es] at v2
    obtain ⟨c, hc2⟩ := sortedHeap_at (vs := vs) (out := out.toArray) hoL
    have hn : H s1.heap.objs.size = none := I.hok.fresh hz
    have hlen : (((ys.zip ds').mergeSort (PySem.W.dataLe false Prod.snd)).map Prod.fst).length ≤ sizeLine := by rw [dalen v2, srt_len, ← hvz, sizeLine_eq]; omega
    have k2 : ∀ b u, s.heap.get? b = some u → (sortedHeap (s1.heap.push (seqObj "list" vs.toArray 0)) s1.heap.objs.size vs out.toArray).get? b = some u := fun b u q => by
      have q1 := k1 b u q
      have hlt := Heap.lt_size q1
      rw [sortedHeap_old (Nat.ne_of_lt hlt) (by rw [size_push']; exact Nat.lt_succ_of_lt hlt)]
      exact Heap.get?_push_of_some _ q1
    refine wpAny_pure ?_
    have J : Inv X pins σ (upd H s1.heap.objs.size (.lst (((ys.zip ds').mergeSort (PySem.W.dataLe false Prod.snd)).map Prod.fst))) { s with heap := sortedHeap (s1.heap.push (seqObj "list" vs.toArray 0)) s1.heap.objs.size vs out.toArray, gens := s1.gens, drawn := s1.drawn, toks := s1.toks } :=
      I.call (ch := []) (Un.laid k2 hz hn) (I.hok.laid k2 hz ⟨hlen, out, c, v1, hc2⟩) (by rw [g1]; exact I.bare) (fun _ z => nomatch z)
    have e : ({ s1 with heap := sortedHeap (s1.heap.push (seqObj "list" vs.toArray 0)) s1.heap.objs.size vs out.toArray } : Shared) = { s with heap := sortedHeap (s1.heap.push (seqObj "list" vs.toArray 0)) s1.heap.objs.size vs out.toArray, gens := s1.gens, drawn := s1.drawn, toks := s1.toks } := by
      cases s1
      cases s
      cases o1
      rfl
    rw [e]
    exact ⟨_, rfl, .ref _, _, J, rfl, q ds' _ _ pd v2 hn⟩
def rLenS (K : PySem.W.Frag) (w : World) : List V → Hp → VK → Prop := fun vs H Q => ∃ (a : Addr) (xs : List V), vs = [.ref a] ∧ H a = some (SetB w a xs) ∧ Q (.int xs.length) H
theorem cr_lenS : CallR X (.builtin "len") (rLenS X.K X.w) := by
  intro pins s σ H vs us Q I r h
  obtain ⟨a, xs, rfl, ha, q⟩ := h
  have ⟨us, es, ep, t, R⟩ : ∃ us es ep t, SetAll X.w s.heap a xs us es ep t := (I.hok a _ ha).1
  rw [Vals.ref1 r]
  obtain ⟨o, ho, hex, hdt⟩ := R.ob
  have hsz : es.size = xs.length := by rw [R.vals.length, ← R.rows, List.length_map, Array.length_toList]
  have hfew := R.few
  exact call_len_set ho hex hdt R.fits (by rw [hsz]; omega) ⟨.int xs.length, H, I.tok _, ⟨_, by rw [hsz]⟩, q⟩
end
end Fm
set_option maxHeartbeats 4000000
/-! FmD: data: depth, equality, order. -/
namespace Fm
open PySem PySem.Spec PyProof.Rows L2
/-! ### shape -/
/-- no dict within, no deeper than n -/
structure Nz (n : Nat) (d : PyData) : Prop where
  lay : d.canLay0 = true
  dep : d.depth ≤ n
theorem Nz.mono {m n : Nat} {d : PyData} (h : Nz m d) (l : m ≤ n) : Nz n d := ⟨h.lay, Nat.le_trans h.dep l⟩
theorem nz_lays : ∀ {ds : List PyData} {n : Nat}, (∀ d ∈ ds, Nz n d) → PyData.canLayAll0 ds = true ∧ PyData.depthAll ds ≤ n
  | [], n, _ => ⟨rfl, Nat.zero_le _⟩
  | d :: ds, n, h => by
    obtain ⟨a, b⟩ := nz_lays (n := n) fun e he => h e (List.mem_cons_of_mem _ he)
    have c := h d List.mem_cons_self
    refine ⟨?_, ?_⟩
    · rw [PyData.canLayAll0, c.lay, a] <;> rfl
    · rw [PyData.depthAll]
      exact Nat.max_le.mpr ⟨c.dep, b⟩
theorem nz_list {ds : List PyData} {n : Nat} (h : ∀ d ∈ ds, Nz n d) : Nz (n + 1) (.list ds) := by
  obtain ⟨a, b⟩ := nz_lays h
  refine ⟨?_, ?_⟩
  · rw [PyData.canLay0]; exact a
  · rw [PyData.depth]; omega
theorem nz_tup {ds : List PyData} {n : Nat} (h : ∀ d ∈ ds, Nz n d) : Nz (n + 1) (.tuple ds) := by
  obtain ⟨a, b⟩ := nz_lays h
  refine ⟨?_, ?_⟩
  · rw [PyData.canLay0]; exact a
  · rw [PyData.depth]; omega
theorem nz_int {i : Int} {n : Nat} : Nz n (.int i) := ⟨rfl, Nat.zero_le _⟩
theorem nz_str {x : Str} {n : Nat} (h : PyData.strOk x = true) : Nz n (.str x) := ⟨by rw [PyData.canLay0]; exact h, Nat.zero_le _⟩
theorem nz_bool {b : Bool} {n : Nat} : Nz n (.bool b) := ⟨rfl, Nat.zero_le _⟩
theorem Nz.shaped {n : Nat} {d : PyData} (h : Nz n d) (l : n ≤ 64) : SeqAt.shaped d = true := by
  unfold SeqAt.shaped
  rw [h.lay, Bool.true_and, decide_eq_true_eq]
  exact Nat.le_trans h.dep l
theorem eqv_nil (ds : List PyData) : PyData.eqv (.list ds) (.list []) = ds.isEmpty := by
  cases ds <;> simp [PyData.eqv, PyData.eqvAll]
theorem eqvT_nil (ds : List PyData) : PyData.eqv (.tuple ds) (.tuple []) = ds.isEmpty := by
  cases ds <;> simp [PyData.eqv, PyData.eqvAll]
/-! ### equality of alike data -/
mutual
theorem eq_of_eqv : ∀ (x y : PyData), PySem.W.alike x y = true → PyData.eqv x y = true → x = y
  | .none, y, h, _ => by cases y <;> first | rfl | simp [PySem.W.alike] at h
  | .bool a, y, h, e => by
    cases y with
    | bool b => simp only [PyData.eqv, beq_iff_eq] at e; rw [e]
    | _ => simp [PySem.W.alike] at h
  | .int a, y, h, e => by
    cases y with
    | int b => simp only [PyData.eqv, beq_iff_eq] at e; rw [e]
    | _ => simp [PySem.W.alike] at h
  | .str a, y, h, e => by
    cases y with
    | str b => simp only [PyData.eqv, beq_iff_eq] at e; rw [e]
    | _ => simp [PySem.W.alike] at h
  | .list xs, y, h, e => by
    cases y with
    | list ys => rw [eq_of_eqvAll xs ys (by simpa [PySem.W.alike] using h) (by simpa [PyData.eqv] using e)]
    | _ => simp [PySem.W.alike] at h
  | .tuple xs, y, h, e => by
    cases y with
    | tuple ys => rw [eq_of_eqvAll xs ys (by simpa [PySem.W.alike] using h) (by simpa [PyData.eqv] using e)]
    | _ => simp [PySem.W.alike] at h
  | .dict _, y, h, _ => by cases y <;> simp [PySem.W.alike] at h
theorem eq_of_eqvAll : ∀ (xs ys : List PyData), PySem.W.alikeAll xs ys = true → PyData.eqvAll xs ys = true → xs = ys
  | [], [], _, _ => rfl
  | [], _ :: _, _, e => by simp [PyData.eqvAll] at e
  | _ :: _, [], _, e => by simp [PyData.eqvAll] at e
  | x :: xs, y :: ys, h, e => by
    rw [PySem.W.alikeAll, Bool.and_eq_true] at h
    rw [PyData.eqvAll, Bool.and_eq_true] at e
    rw [eq_of_eqv x y h.1 e.1, eq_of_eqvAll xs ys h.2 e.2]
end
theorem eqv_alike {x y : PyData} (h : PySem.W.alike x y = true) (hx : PySem.W.alike x x = true) : PyData.eqv x y = true ↔ x = y :=
  ⟨eq_of_eqv x y h, fun e => by rw [← e]; exact PySem.W.eqv_refl_alike x hx⟩
/-! ### order -/
theorem lt_total {x y : PyData} (h : PySem.W.alike x y = true) (a : PySem.W.dataLt x y = false) (b : PySem.W.dataLt y x = false) : x = y := by
  have e := PyProof.Rows.lex_total _ _ a b
  cases q : PyData.eqv x y with
  | true => exact eq_of_eqv x y h q
  | false =>
    exfalso
    have t := (PySem.W.toks_eqv x y h).2 q [.inl 0] [.inl 1]
    have a' : PyProof.Rows.lexLt itemOrd (PySem.W.keyToks x) (PySem.W.keyToks y) = false := a
    rw [a', e, PySem.W.lex_pre] at t
    have z : PyProof.Rows.lexLt itemOrd [.inl 0] [.inl 1] = true := by rw [PySem.W.lex_one]; rfl
    rw [z] at t
    cases t
def leD (x y : PyData) : Bool := !PySem.W.dataLt y x
theorem leD_eq : PySem.W.dataLe false (id : PyData → PyData) = leD := by
  funext a b
  rfl
theorem leD_trans (x y z : PyData) (a : leD x y = true) (b : leD y z = true) : leD x z = true := by
  unfold leD at a b ⊢
  rw [Bool.not_eq_true'] at a b ⊢
  cases q : PySem.W.dataLt z x with
  | false => rfl
  | true =>
    rcases PyProof.Rows.lex_negTrans _ (PySem.W.keyToks y) _ q with h | h
    · have b' : PyProof.Rows.lexLt itemOrd (PySem.W.keyToks z) (PySem.W.keyToks y) = false := b
      rw [b'] at h; cases h
    · have a' : PyProof.Rows.lexLt itemOrd (PySem.W.keyToks y) (PySem.W.keyToks x) = false := a
      rw [a'] at h; cases h
theorem leD_total (x y : PyData) : (leD x y || leD y x) = true := by
  unfold leD
  cases a : PySem.W.dataLt y x with
  | false => rfl
  | true =>
    cases b : PySem.W.dataLt x y with
    | false => rfl
    | true =>
      have t := PyProof.Rows.lex_trans _ _ _ a b
      rw [PyProof.Rows.lex_irrefl] at t
      cases t
theorem srt_pw (ds : List PyData) : (srt ds).Pairwise fun x y => leD x y = true := by
  unfold srt
  rw [leD_eq]
  exact List.pairwise_mergeSort leD_trans leD_total ds
theorem srt_perm (ds : List PyData) : (srt ds).Perm ds := List.mergeSort_perm ds _
/-- two ordered rows of the same things, of which no two are level, are one -/
theorem pw_unique {α : Type} {le : α → α → Bool} : ∀ {l m : List α}, l.Perm m → (∀ x ∈ l, ∀ y ∈ l, le x y = true → le y x = true → x = y) → l.Pairwise (fun x y => le x y = true) → m.Pairwise (fun x y => le x y = true) → l = m
  | [], m, p, _, _, _ => (List.nil_perm.mp p).symm
  | x :: l, m, p, anti, hl, hm => by
    obtain ⟨h1, h2⟩ := List.pairwise_cons.mp hl
    match m, p, hm with
    | [], p, _ => exact absurd p.symm (by simp)
    | y :: m, p, hm =>
      obtain ⟨g1, g2⟩ := List.pairwise_cons.mp hm
      have e : x = y := by
        rcases List.mem_cons.mp (p.mem_iff.mp List.mem_cons_self) with e | e
        · exact e
        · rcases List.mem_cons.mp (p.mem_iff.mpr (List.mem_cons_self (a := y))) with k | k
          · exact k.symm
          · exact anti x List.mem_cons_self y (List.mem_cons_of_mem _ k) (h1 y k) (g1 x e)
      subst e
      rw [pw_unique (List.Perm.cons_inv p) (fun a ha b hb => anti a (List.mem_cons_of_mem _ ha) b (List.mem_cons_of_mem _ hb)) h2 g2]
theorem leD_anti {x y : PyData} (h : PySem.W.alike x y = true) (a : leD x y = true) (b : leD y x = true) : x = y := by
  unfold leD at a b
  rw [Bool.not_eq_true'] at a b
  exact lt_total h b a
theorem srt_of_perm {ds es : List PyData} (h : PySem.W.AllAlike ds) (p : es.Perm ds) : srt es = srt ds := by
  refine pw_unique (((srt_perm es).trans p).trans (srt_perm ds).symm) (fun x hx y hy a b => ?_) (srt_pw es) (srt_pw ds)
  have mx : x ∈ ds := p.mem_iff.mp ((srt_perm es).mem_iff.mp hx)
  have my : y ∈ ds := p.mem_iff.mp ((srt_perm es).mem_iff.mp hy)
  exact leD_anti (h x mx y my) a b
theorem srt_sorted {ds : List PyData} (h : PySem.W.AllAlike ds) (s : ds.Pairwise fun x y => leD x y = true) : srt ds = ds :=
  pw_unique (srt_perm ds) (fun x hx y hy a b => leD_anti (h x ((srt_perm ds).mem_iff.mp hx) y ((srt_perm ds).mem_iff.mp hy)) a b) (srt_pw ds) s
end Fm
set_option maxHeartbeats 4000000
/-! FmC: readings in a frame. G: what stays as it is and what the values live in; o: the one thing that may be written. -/
namespace Fm
open PySem PySem.Spec PyProof.Rows L2

/-! ### what may be written; the frame -/
structure Ow where
  M : Addr → Prop
  R : Hp → Prop
  al : ∀ {H : Hp} {a : Addr}, R H → M a → ∃ u, H a = some u
  st : ∀ {H H' : Hp}, (∀ a u, M a → H a = some u → H' a = some u) → R H → R H'
def Ow.no : Ow := ⟨fun _ => False, fun _ => True, fun _ h => h.elim, fun _ h => h⟩
structure Fr (o : Ow) (G H : Hp) : Prop where
  sub : Same G H
  ap : ∀ a, o.M a → G a = none
  res : o.R H
structure Ex (o : Ow) (G G' H H' : Hp) : Prop where
  keep : ∀ a u, ¬ o.M a → H a = some u → H' a = some u
  gg : Same G G'
  new : ∀ a u, H a = some u → G' a = G a
  fr : Fr o G' H'
section
variable {o : Ow} {G G1 G2 G3 H H1 H2 H3 : Hp}
theorem Ex.refl (f : Fr o G H) : Ex o G G H H := ⟨fun _ _ _ e => e, Same.refl G, fun _ _ _ => rfl, f⟩
theorem Ex.trans (e1 : Ex o G G1 H H1) (e2 : Ex o G1 G2 H1 H2) : Ex o G G2 H H2 where
  keep := fun a u m e => e2.keep a u m (e1.keep a u m e)
  gg := e1.gg.trans e2.gg
  new := fun a u e => by
    by_cases m : o.M a
    · have a1 := e1.fr.ap a m
      have a2 := e2.fr.ap a m
      cases q : G a with
      | none => exact a2
      | some v => rw [e1.gg a v q] at a1; cases a1
    · rw [e2.new a u (e1.keep a u m e), e1.new a u e]
  fr := e2.fr
theorem Fr.base (f : Fr o G1 H) (s : Same G G1) : Fr o G H where
  sub := s.trans f.sub
  ap := fun a m => by
    cases q : G a with
    | none => rfl
    | some v => have := f.ap a m; rw [s a v q] at this; cases this
  res := f.res
theorem Fr.no (f : Fr o G H) : Fr .no G H := ⟨f.sub, fun _ h => h.elim, True.intro⟩
theorem Ex.lift (f : Fr o G H) (e : Ex .no G G1 H H1) : Ex o G G1 H H1 where
  keep := fun a u _ q => e.keep a u (fun z => z) q
  gg := e.gg
  new := e.new
  fr := ⟨e.fr.sub, fun a m => by
    obtain ⟨u, q⟩ := o.al f.res m
    rw [e.new a u q]
    exact f.ap a m, o.st (fun a u _ q => e.keep a u (fun z => z) q) f.res⟩
/-- a new object, kept in the frame -/
theorem Ex.made {p : Addr} {u : HO} (f : Fr o G H) (h : H p = none) : Ex o G (upd G p u) H (upd H p u) where
  keep := fun a v _ e => by rw [upd_ne (ne_of_none e h)]; exact e
  gg := fun a v e => by
    have := f.sub a v e
    rw [upd_ne (ne_of_none this h)]; exact e
  new := fun a v e => upd_ne (ne_of_none e h)
  fr := ⟨fun a v e => by
    by_cases q : a = p
    · rw [q] at e ⊢; rw [upd_same] at e ⊢; exact e
    · rw [upd_ne q] at e ⊢; exact f.sub a v e, fun a m => by
      obtain ⟨v, e⟩ := o.al f.res m
      rw [upd_ne (ne_of_none e h)]
      exact f.ap a m, o.st (fun a v _ e => by rw [upd_ne (ne_of_none e h)]; exact e) f.res⟩
/-- .. beside the frame -/
theorem Ex.aside {p : Addr} {u : HO} (f : Fr o G H) (h : H p = none) : Ex o G G H (upd H p u) where
  keep := fun a v _ e => by rw [upd_ne (ne_of_none e h)]; exact e
  gg := Same.refl G
  new := fun _ _ _ => rfl
  fr := ⟨fun a v e => by
    have := f.sub a v e
    rw [upd_ne (ne_of_none this h)]; exact this, f.ap, o.st (fun a v _ e => by rw [upd_ne (ne_of_none e h)]; exact e) f.res⟩
/-- an object beside the frame is written -/
theorem Fr.wrote {p : Addr} {u : HO} (f : Fr o G H) (hg : G p = none) (hm : ¬ o.M p) : Fr o G (upd H p u) where
  sub := fun a v e => by rw [upd_ne (ne_of_none e hg)]; exact f.sub a v e
  ap := f.ap
  res := o.st (fun a v m e => by
    have : a ≠ p := fun z => hm (z ▸ m)
    rw [upd_ne this]; exact e) f.res
/-- .. which the entry did not know -/
theorem Ex.wrote {p : Addr} {u : HO} (e : Ex o G G1 H H1) (h : H p = none) (hg : G1 p = none) (hm : ¬ o.M p) : Ex o G G1 H (upd H1 p u) where
  keep := fun a v m q => by rw [upd_ne (ne_of_none q h)]; exact e.keep a v m q
  gg := e.gg
  new := e.new
  fr := e.fr.wrote hg hm
/-- .. and taken into the frame -/
theorem Ex.took {p : Addr} {u : HO} (e : Ex o G G1 H H1) (h : H p = none) (hg : G1 p = none) (hm : ¬ o.M p) (hu : H1 p = some u) : Ex o G (upd G1 p u) H H1 where
  keep := e.keep
  gg := fun a v q => by
    have := e.gg a v q
    rw [upd_ne (ne_of_none this hg)]; exact this
  new := fun a v q => by rw [upd_ne (ne_of_none q h)]; exact e.new a v q
  fr := ⟨fun a v q => by
    by_cases z : a = p
    · rw [z] at q ⊢; rw [upd_same] at q; rw [hu]; exact q
    · rw [upd_ne z] at q; exact e.fr.sub a v q, fun a m => by
    have : a ≠ p := fun z => hm (z ▸ m)
    rw [upd_ne this]; exact e.fr.ap a m, e.fr.res⟩
theorem Same.to {p : Addr} {u : HO} (h : G p = none) : Same G (upd G p u) := Same.new h
end

/-! ### what a value is -/
structure Pr where
  p : Hp → V → Prop
  mono : ∀ {G G' : Hp} {v : V}, Same G G' → p G v → p G' v
def AllP : List Pr → Hp → List V → Prop
  | [], _, [] => True
  | Φ :: Φs, G, v :: vs => Φ.p G v ∧ AllP Φs G vs
  | [], _, _ :: _ => False
  | _ :: _, _, [] => False
theorem AllP.mono {G G' : Hp} (s : Same G G') : ∀ {Φs : List Pr} {vs : List V}, AllP Φs G vs → AllP Φs G' vs
  | [], [], _ => True.intro
  | Φ :: _, _ :: _, h => ⟨Φ.mono s h.1, AllP.mono s h.2⟩
  | [], _ :: _, h => h.elim
  | _ :: _, [], h => h.elim
theorem AllP.len {G : Hp} : ∀ {Φs : List Pr} {vs : List V}, AllP Φs G vs → vs.length = Φs.length
  | [], [], _ => rfl
  | _ :: _, _ :: _, h => by rw [List.length_cons, List.length_cons, AllP.len h.2]
  | [], _ :: _, h => h.elim
  | _ :: _, [], h => h.elim
theorem AllP.app {G : Hp} : ∀ {Φs Ψs : List Pr} {vs ws : List V}, AllP Φs G vs → AllP Ψs G ws → AllP (Φs ++ Ψs) G (vs ++ ws)
  | [], _, [], _, _, h => h
  | _ :: _, _, _ :: _, _, h, h' => ⟨h.1, AllP.app h.2 h'⟩
  | [], _, _ :: _, _, h, _ => h.elim
  | _ :: _, _, [], _, h, _ => h.elim
theorem AllP.get {G : Hp} : ∀ {Φs : List Pr} {vs : List V} {i : Nat} {v : V}, AllP Φs G vs → vs[i]? = some v → ∃ Φ, Φs[i]? = some Φ ∧ Φ.p G v
  | Φ :: _, v :: _, 0, w, h, e => ⟨Φ, rfl, by simp at e; subst e; exact h.1⟩
  | _ :: Φs, _ :: vs, i + 1, w, h, e => by
    obtain ⟨Φ, a, b⟩ := AllP.get (i := i) h.2 (by simpa using e)
    exact ⟨Φ, by simpa using a, b⟩
  | [], [], i, w, _, e => by simp at e
  | [], _ :: _, _, _, h, _ => h.elim
  | _ :: _, [], _, _, h, _ => h.elim
theorem AllP.at {G : Hp} {Φs : List Pr} {vs : List V} {i : Nat} {Φ : Pr} (h : AllP Φs G vs) (e : Φs[i]? = some Φ) : ∃ v, vs[i]? = some v ∧ Φ.p G v := by
  have hl := h.len
  have hi : i < vs.length := by rw [hl]; exact (List.getElem?_eq_some_iff.mp e).1
  obtain ⟨Φ', a, b⟩ := h.get (List.getElem?_eq_getElem hi)
  rw [e] at a
  cases a
  exact ⟨_, List.getElem?_eq_getElem hi, b⟩
/-- a datum -/
def PD (K : PySem.W.Frag) (d : PyData) : Pr := ⟨fun G v => Dp K G v d, fun s h => dsame h s⟩
/-- a value that is no object -/
def PV (x : V) : Pr := ⟨fun _ v => v = x, fun _ h => h⟩
def PE_ (ι : Type) (f : ι → Pr) : Pr := ⟨fun G v => ∃ i, (f i).p G v, fun s ⟨i, h⟩ => ⟨i, (f i).mono s h⟩⟩
/-- a list, a tuple of such -/
def PL (K : PySem.W.Frag) (Φs : List Pr) : Pr := ⟨fun G v => ∃ a xs, v = .ref a ∧ SqL K G a xs ∧ AllP Φs G xs, fun s ⟨a, xs, e, h1, h2⟩ => ⟨a, xs, e, Same.lst s h1, h2.mono s⟩⟩
def PTu (K : PySem.W.Frag) (Φs : List Pr) : Pr := ⟨fun G v => ∃ a xs, v = .ref a ∧ SqT K G a xs ∧ AllP Φs G xs, fun s ⟨a, xs, e, h1, h2⟩ => ⟨a, xs, e, Same.tup s h1, h2.mono s⟩⟩
/-- a list of ours or of the caller's that is told as a list -/
def PLn (Φs : List Pr) : Pr := ⟨fun G v => ∃ a xs, v = .ref a ∧ G a = some (.lst xs) ∧ AllP Φs G xs, fun s ⟨a, xs, e, h1, h2⟩ => ⟨a, xs, e, s a _ h1, h2.mono s⟩⟩
def PN (K : PySem.W.Frag) (ds : List PyData) : Pr := ⟨fun G v => ∃ a xs, v = .ref a ∧ G a = some (.lst xs) ∧ DpAll K G xs ds, fun s ⟨a, xs, e, h1, h2⟩ => ⟨a, xs, e, s a _ h1, dasame h2 s⟩⟩
theorem pln_l {K : PySem.W.Frag} {Φs : List Pr} {G : Hp} {v : V} (h : (PLn Φs).p G v) : (PL K Φs).p G v := by
  obtain ⟨a, xs, e, h1, h2⟩ := h
  exact ⟨a, xs, e, .inl (.inl h1), h2⟩
theorem pn_d {K : PySem.W.Frag} {ds : List PyData} {G : Hp} {v : V} (h : (PN K ds).p G v) : (PD K (.list ds)).p G v := by
  obtain ⟨a, xs, rfl, h1, h2⟩ := h
  exact Dp.lst (.inl (.inl h1)) h2
theorem allp_da {K : PySem.W.Frag} {G : Hp} : ∀ {ds : List PyData} {vs : List V}, AllP (ds.map (PD K)) G vs → DpAll K G vs ds
  | [], [], _ => .nil
  | d :: _, _ :: _, h => .cons h.1 (allp_da h.2)
  | [], _ :: _, h => h.elim
  | _ :: _, [], h => h.elim
theorem da_allp {K : PySem.W.Frag} {G : Hp} : ∀ {ds : List PyData} {vs : List V}, DpAll K G vs ds → AllP (ds.map (PD K)) G vs
  | _, _, .nil => True.intro
  | _, _, .cons a t => ⟨a, da_allp t⟩
theorem pl_data {K : PySem.W.Frag} {G : Hp} {ds : List PyData} {v : V} : (PL K (ds.map (PD K))).p G v ↔ (PD K (.list ds)).p G v :=
  ⟨fun ⟨a, xs, e, h1, h2⟩ => by rw [e]; exact .lst h1 (allp_da h2), fun h => by
    obtain ⟨a, xs, e, h1, h2⟩ := dp_lst h
    exact ⟨a, xs, e, h1, da_allp h2⟩⟩
theorem pt_data {K : PySem.W.Frag} {G : Hp} {ds : List PyData} {v : V} : (PTu K (ds.map (PD K))).p G v ↔ (PD K (.tuple ds)).p G v :=
  ⟨fun ⟨a, xs, e, h1, h2⟩ => by rw [e]; exact .tup h1 (allp_da h2), fun h => by
    obtain ⟨a, xs, e, h1, h2⟩ := dp_tup h
    exact ⟨a, xs, e, h1, da_allp h2⟩⟩

/-! ### readings -/
def Runs (o : Ow) (G H : Hp) (k : VK → Prop) (Φ : Pr) : Prop := ∀ Q : VK, (∀ v H' G', Ex o G G' H H' → Φ.p G' v → Q v H') → k Q
def EvP (o : Ow) (te : TE) (σ : L2.St) (G : Hp) (Φ : Pr) : Prop := ∀ H, Fr o G H → Runs o G H (te σ H) Φ
def EvA (o : Ow) (ta : TA) (σ : L2.St) (G : Hp) (Φs : List Pr) : Prop := ∀ H, Fr o G H → ∀ Q : List V → Hp → Prop, (∀ vs H' G', Ex o G G' H H' → AllP Φs G' vs → Q vs H') → ta σ H Q
/-- a test: B says which answers may come -/
def EvB (o : Ow) (tt : TT) (σ : L2.St) (G : Hp) (B : Bool → Prop) : Prop := ∀ H, Fr o G H → ∀ Q : Bool → Hp → Prop, (∀ b H' G', Ex o G G' H H' → B b → Q b H') → tt σ H Q
abbrev EvT (o : Ow) (tt : TT) (σ : L2.St) (G : Hp) (b : Bool) : Prop := EvB o tt σ G fun c => c = b
abbrev EvD (o : Ow) (K : PySem.W.Frag) (te : TE) (σ : L2.St) (G : Hp) (d : PyData) : Prop := EvP o te σ G (PD K d)
def mixH (H G2 G' : Hp) : Hp := fun a => match H a with | some _ => G2 a | none => G' a
theorem mix_some {H G2 G' : Hp} {a : Addr} {u : HO} (h : H a = some u) : mixH H G2 G' a = G2 a := by unfold mixH; rw [h]
theorem mix_none {H G2 G' : Hp} {a : Addr} (h : H a = none) : mixH H G2 G' a = G' a := by unfold mixH; rw [h]
theorem ex_mix {o : Ow} {G G2 G' H H' : Hp} (f : Fr o G2 H) (s : Same G G2) (e : Ex o G G' H H') : ∃ G'', Ex o G2 G'' H H' ∧ Same G' G'' := by
  refine ⟨mixH H G2 G', ⟨e.keep, fun a u q => ?_, fun a u q => mix_some q, ⟨fun a u q => ?_, fun a m => ?_, e.fr.res⟩⟩, fun a u q => ?_⟩
  · rw [mix_some (f.sub a u q)]
    exact q
  · cases h : H a with
    | none =>
      rw [mix_none h] at q
      exact e.fr.sub a u q
    | some v =>
      rw [mix_some h] at q
      have h2 := f.sub a u q
      by_cases m : o.M a
      · rw [f.ap a m] at q; cases q
      · exact e.keep a u m h2
  · cases h : H a with
    | none => rw [mix_none h]; exact e.fr.ap a m
    | some v => rw [mix_some h]; exact f.ap a m
  · cases h : H a with
    | none => rw [mix_none h]; exact q
    | some v =>
      rw [mix_some h]
      have := e.new a v h
      rw [q] at this
      exact s a u this.symm
section
variable {o : Ow} {K : PySem.W.Frag} {σ : L2.St} {G G1 H : Hp} {ta tb tc te tx : TE} {tr : TA} {t u : TT} {x y z v : V} {d e r : PyData} {ds : List PyData} {b c : Bool} {i j : Int} {Φ Φ1 Φ2 Φ3 Ψ : Pr} {Φs : List Pr} {B B2 : Bool → Prop}
theorem EvP.up (h : EvP o te σ G Φ) (s : Same G G1) : EvP o te σ G1 Φ := fun H f Q q => h H (f.base s) Q fun v H' G' e p => by
  obtain ⟨G2, e2, s2⟩ := ex_mix f s e
  exact q v H' G2 e2 (Φ.mono s2 p)
theorem EvA.up (h : EvA o tr σ G Φs) (s : Same G G1) : EvA o tr σ G1 Φs := fun H f Q q => h H (f.base s) Q fun v H' G' e p => by
  obtain ⟨G2, e2, s2⟩ := ex_mix f s e
  exact q v H' G2 e2 (p.mono s2)
theorem EvB.up (h : EvB o t σ G B) (s : Same G G1) : EvB o t σ G1 B := fun H f Q q => h H (f.base s) Q fun v H' G' e p => by
  obtain ⟨G2, e2, s2⟩ := ex_mix f s e
  exact q v H' G2 e2 p
theorem EvP.imp (h : EvP o te σ G Φ) (f : ∀ G1 v, Same G G1 → Φ.p G1 v → Ψ.p G1 v) : EvP o te σ G Ψ := fun H a Q q => h H a Q fun v H2 G2 e p => q v H2 G2 e (f G2 v e.gg p)
theorem EvD.to (h : EvD o K te σ G d) (q : d = e) : EvD o K te σ G e := q ▸ h
theorem EvT.to (h : EvT o t σ G b) (q : b = c) : EvT o t σ G c := q ▸ h
theorem Runs.ret (f : Fr o G H) (p : Φ.p G z) : Runs o G H (fun Q => Q z H) Φ := fun Q q => q z H G (Ex.refl f) p
/-! names, constants -/
theorem ev_var {n : Nat} (h : σ[n]? = some (some v)) (p : Φ.p G v) : EvP o (tVar n) σ G Φ := fun H f Q q => ⟨v, h, q v H G (Ex.refl f) p⟩
theorem ev_c (p : Φ.p G v) : EvP o (tC v) σ G Φ := fun H f Q q => q v H G (Ex.refl f) p
theorem evd_int : EvD o K (tC (.int i)) σ G (.int i) := ev_c (Dp.int i)
theorem evd_str {x : Str} : EvD o K (tC (.str x)) σ G (.str x) := ev_c (Dp.str x)
theorem evd_bl : EvD o K (tC (.bl b)) σ G (.bool b) := ev_c (Dp.bl b)
theorem evd_non : EvD o K (tC .non) σ G .none := ev_c Dp.non
theorem var_ {n : Nat} {v : V} (h : σ[n]? = some (some v)) (q : Φ.p G v) : EvP o (tVar n) σ G Φ := ev_var h q
/-! argument lists, displays -/
theorem eva_nil : EvA o tNil σ G [] := fun H f Q q => q [] H G (Ex.refl f) True.intro
theorem eva_cons (h : EvP o ta σ G Φ) (hr : EvA o tr σ G Φs) : EvA o (tCons ta tr) σ G (Φ :: Φs) := fun H f Q q =>
  h H f _ fun v H1 G1 e1 p => (hr.up e1.gg) H1 e1.fr _ fun vs H2 G2 e2 ps => q _ H2 G2 (e1.trans e2) ⟨Φ.mono e2.gg p, ps⟩
theorem evda_nil : EvA o tNil σ G (([] : List PyData).map (PD K)) := eva_nil
theorem evda_cons (h : EvD o K ta σ G d) (hr : EvA o tr σ G (ds.map (PD K))) : EvA o (tCons ta tr) σ G ((d :: ds).map (PD K)) := eva_cons h hr
theorem ev_tup (h : EvA o tr σ G Φs) (hl : Φs.length ≤ 100000) : EvP o (tTup tr) σ G (PTu K Φs) := fun H f Q q =>
  h H f _ fun vs H1 G1 e1 ps => ⟨by rw [ps.len]; exact Nat.le_trans hl (by decide), fun p hp => by
    have e2 := Ex.made (u := .tup vs) e1.fr hp
    exact q _ _ _ (e1.trans e2) ⟨p, vs, rfl, .inl (.inl upd_same), ps.mono e2.gg⟩⟩
theorem ev_lst (h : EvA o tr σ G Φs) (hl : Φs.length ≤ 100000) : EvP o (tLst tr) σ G (PL K Φs) := fun H f Q q =>
  h H f _ fun vs H1 G1 e1 ps => ⟨by rw [ps.len]; exact Nat.le_trans hl (by decide), fun p hp => by
    have e2 := Ex.made (u := .lst vs) e1.fr hp
    exact q _ _ _ (e1.trans e2) ⟨p, vs, rfl, .inl (.inl upd_same), ps.mono e2.gg⟩⟩
theorem evd_tup (h : EvA o tr σ G (ds.map (PD K))) (hl : ds.length ≤ 100000) : EvD o K (tTup tr) σ G (.tuple ds) := (ev_tup (K := K) h (by rw [List.length_map]; exact hl)).imp fun _ _ _ p => pt_data.mp p
theorem pln_n {ds : List PyData} {v : V} (h : (PLn (ds.map (PD K))).p G v) : (PN K ds).p G v := by
  obtain ⟨a, xs, e, h1, h2⟩ := h
  exact ⟨a, xs, e, h1, allp_da h2⟩
theorem evn_lst (h : EvA o tr σ G (ds.map (PD K))) (hl : ds.length ≤ 100000) : EvP o (tLst tr) σ G (PN K ds) := fun H f Q q =>
  h H f _ fun vs H1 G1 e1 ps => ⟨by rw [ps.len, List.length_map]; exact Nat.le_trans hl (by decide), fun p hp => by
    have e2 := Ex.made (u := .lst vs) e1.fr hp
    exact q _ _ _ (e1.trans e2) ⟨p, vs, rfl, upd_same, allp_da (ps.mono e2.gg)⟩⟩
theorem evd_lst (h : EvA o tr σ G (ds.map (PD K))) (hl : ds.length ≤ 100000) : EvD o K (tLst tr) σ G (.list ds) := (ev_lst (K := K) h (by rw [List.length_map]; exact hl)).imp fun _ _ _ p => pl_data.mp p
/-! operators -/
theorem ev_op {r : R2} (h1 : EvP o ta σ G Φ1) (h2 : EvP o tb σ G Φ2) (hr : ∀ G2 H2 x y, Same G G2 → Fr o G2 H2 → Φ1.p G2 x → Φ2.p G2 y → Runs o G2 H2 (r x y H2) Φ) : EvP o (tOp r ta tb) σ G Φ := fun H f Q q =>
  h1 H f _ fun x H1 G1 e1 p1 => (h2.up e1.gg) H1 e1.fr _ fun y H2 G2 e2 p2 => hr G2 H2 x y (e1.gg.trans e2.gg) e2.fr (Φ1.mono e2.gg p1) p2 Q fun v H3 G3 e3 p3 => q v H3 G3 ((e1.trans e2).trans e3) p3
theorem ev_un {r : V → Hp → VK → Prop} (h1 : EvP o ta σ G Φ1) (hr : ∀ G2 H2 x, Same G G2 → Fr o G2 H2 → Φ1.p G2 x → Runs o G2 H2 (r x H2) Φ) : EvP o (tUn r ta) σ G Φ := fun H f Q q =>
  h1 H f _ fun x H1 G1 e1 p1 => hr G1 H1 x e1.gg e1.fr p1 Q fun v H3 G3 e3 p3 => q v H3 G3 (e1.trans e3) p3
theorem ev_cb {r : List V → Hp → VK → Prop} (h1 : EvA o tr σ G Φs) (hr : ∀ G2 H2 xs, Same G G2 → Fr o G2 H2 → AllP Φs G2 xs → Runs o G2 H2 (r xs H2) Φ) : EvP o (tCB r tr) σ G Φ := fun H f Q q =>
  h1 H f _ fun x H1 G1 e1 p1 => hr G1 H1 x e1.gg e1.fr p1 Q fun v H3 G3 e3 p3 => q v H3 G3 (e1.trans e3) p3
theorem atI_data {vs : List V} {ds : List PyData} (h : DpAll K H vs ds) {d : PyData} (e : atI ds i = some d) : ∃ v, atI vs i = some v ∧ Dp K H v d := by
  unfold atI at e ⊢
  rw [dalen h]
  cases q : ixN ds.length i with
  | none => rw [q] at e; cases e
  | some j =>
    rw [q] at e
    exact daat h e
theorem atI_all {vs : List V} (h : AllP Φs H vs) (e : atI Φs i = some Φ) : ∃ v, atI vs i = some v ∧ Φ.p H v := by
  unfold atI at e ⊢
  rw [h.len]
  cases q : ixN Φs.length i with
  | none => rw [q] at e; cases e
  | some j =>
    rw [q] at e
    exact h.at e
theorem evd_ixT (h : EvD o K ta σ G (.tuple ds)) (hi : EvD o K tb σ G (.int i)) (ha : atI ds i = some d) : EvD o K (tOp (rIxT K) ta tb) σ G d := ev_op h hi fun G2 H2 x y _ f p1 p2 Q q => by
  obtain ⟨a, xs, rfl, hx, hd⟩ := dp_tup p1
  obtain ⟨v, e1, e2⟩ := atI_data hd ha
  exact ⟨a, xs, i, v, rfl, dp_int p2, Same.tup f.sub hx, e1, q v H2 G2 (Ex.refl f) e2⟩
theorem evd_ixL (h : EvD o K ta σ G (.list ds)) (hi : EvD o K tb σ G (.int i)) (ha : atI ds i = some d) : EvD o K (tOp (rIxL K) ta tb) σ G d := ev_op h hi fun G2 H2 x y _ f p1 p2 Q q => by
  obtain ⟨a, xs, rfl, hx, hd⟩ := dp_lst p1
  obtain ⟨v, e1, e2⟩ := atI_data hd ha
  exact ⟨a, xs, i, v, rfl, dp_int p2, Same.lst f.sub hx, e1, q v H2 G2 (Ex.refl f) e2⟩
theorem ev_I0 {g : Int → Int → V} (h1 : EvD o K ta σ G (.int i)) (h2 : EvD o K tb σ G (.int j)) (hr : ∀ G, Φ.p G (g i j)) : EvP o (tOp (rI0 g) ta tb) σ G Φ := ev_op h1 h2 fun G2 H2 x y _ f p1 p2 Q q =>
  ⟨i, j, dp_int p1, dp_int p2, q _ H2 G2 (Ex.refl f) (hr G2)⟩
theorem ev_I {C : Int → Int → Prop} {g : Int → Int → V} (h1 : EvD o K ta σ G (.int i)) (h2 : EvD o K tb σ G (.int j)) (hc : C i j) (hr : ∀ G, Φ.p G (g i j)) : EvP o (tOp (rI C g) ta tb) σ G Φ := ev_op h1 h2 fun G2 H2 x y _ f p1 p2 Q q =>
  ⟨i, j, dp_int p1, dp_int p2, hc, q _ H2 G2 (Ex.refl f) (hr G2)⟩
theorem intI_ {g : Int → Int → Int} (h1 : EvD o K ta σ G (.int i)) (h2 : EvD o K tb σ G (.int j)) (q : PyData.int (g i j) = r) : EvD o K (tOp (rI0 fun i j => .int (g i j)) ta tb) σ G r := q ▸ ev_I0 h1 h2 fun _ => Dp.int _
theorem intB_ {g : Int → Int → Bool} (h1 : EvD o K ta σ G (.int i)) (h2 : EvD o K tb σ G (.int j)) (q : PyData.bool (g i j) = r) : EvD o K (tOp (rI0 fun i j => .bl (g i j)) ta tb) σ G r := q ▸ ev_I0 h1 h2 fun _ => Dp.bl _
theorem neg_ (h1 : EvD o K ta σ G (.int i)) (q : PyData.int (-i) = r) : EvD o K (tUn (rU fun i => .int (-i)) ta) σ G r := q ▸ ev_un h1 fun G2 H2 x _ f p Q k => ⟨i, dp_int p, k _ H2 G2 (Ex.refl f) (Dp.int _)⟩
theorem eqD_ (h1 : EvD o K ta σ G d) (h2 : EvD o K tb σ G e) (s1 : SeqAt.shaped d = true) (s2 : SeqAt.shaped e = true) (q : PyData.bool (PyData.eqv d e) = r) : EvD o K (tOp (rEqD K) ta tb) σ G r := q ▸ ev_op h1 h2 fun G2 H2 x y _ f p1 p2 Q k =>
  ⟨d, e, dsame p1 f.sub, dsame p2 f.sub, s1, s2, k _ H2 G2 (Ex.refl f) (Dp.bl _)⟩
theorem neD_ (h1 : EvD o K ta σ G d) (h2 : EvD o K tb σ G e) (s1 : SeqAt.shaped d = true) (s2 : SeqAt.shaped e = true) (q : PyData.bool (!PyData.eqv d e) = r) : EvD o K (tOp (rNeD K) ta tb) σ G r := q ▸ ev_op h1 h2 fun G2 H2 x y _ f p1 p2 Q k =>
  ⟨d, e, dsame p1 f.sub, dsame p2 f.sub, s1, s2, k _ H2 G2 (Ex.refl f) (Dp.bl _)⟩
/-! and, or, not -/
theorem ev_andT (h1 : EvD o K ta σ G (.bool true)) (h2 : EvP o tb σ G Φ) : EvP o (tAndV ta tb) σ G Φ := fun H f Q q =>
  h1 H f _ fun v H1 G1 e p => ⟨true, dp_bl p, iteT ((h2.up e.gg) H1 e.fr Q fun v H2 G2 e2 r => q v H2 G2 (e.trans e2) r)⟩
theorem evd_and (h1 : EvD o K ta σ G (.bool b)) (h2 : b = true → EvD o K tb σ G (.bool c)) : EvD o K (tAndV ta tb) σ G (.bool (b && c)) := fun H f Q q =>
  h1 H f _ fun v H1 G1 e p => ⟨b, dp_bl p, by
    cases b with
    | true => exact iteT (((h2 rfl).up e.gg) H1 e.fr Q fun v H2 G2 e2 r => q v H2 G2 (e.trans e2) r)
    | false => exact iteF (q _ H1 G1 e (Dp.bl _))⟩
theorem evd_or (h1 : EvD o K ta σ G (.bool b)) (h2 : b = false → EvD o K tb σ G (.bool c)) : EvD o K (tOrV ta tb) σ G (.bool (b || c)) := fun H f Q q =>
  h1 H f _ fun v H1 G1 e p => ⟨b, dp_bl p, by
    cases b with
    | true => exact iteT (q _ H1 G1 e (Dp.bl _))
    | false => exact iteF (((h2 rfl).up e.gg) H1 e.fr Q fun v H2 G2 e2 r => q v H2 G2 (e.trans e2) r)⟩
theorem not_ (h1 : EvD o K ta σ G (.bool b)) (q : PyData.bool (!b) = r) : EvD o K (tNotV ta) σ G r := q ▸ fun H f Q k =>
  h1 H f _ fun v H1 G1 e p => ⟨b, dp_bl p, k _ H1 G1 e (Dp.bl _)⟩
theorem evt_test (h : EvD o K te σ G (.bool b)) : EvT o (tTest te) σ G b := fun H f Q q => h H f _ fun v H1 G1 e p => ⟨b, dp_bl p, q b H1 G1 e rfl⟩
theorem evt_B (h : EvD o K te σ G (.bool b)) : EvT o (tB te) σ G b := fun H f Q q => h H f _ fun v H1 G1 e p => ⟨b, dp_bl p, q b H1 G1 e rfl⟩
/-- the answer not told -/
def PB (B : Bool → Prop) : Pr := ⟨fun _ v => ∃ b, v = .bl b ∧ B b, fun _ h => h⟩
theorem evb_test (h : EvP o te σ G (PB B)) : EvB o (tTest te) σ G B := fun H f Q q => h H f _ fun v H1 G1 e ⟨b, p, hb⟩ => ⟨b, p, q b H1 G1 e hb⟩
theorem evt_yes : EvT o tYes σ G true := fun H f Q q => q true H G (Ex.refl f) rfl
theorem evt_and (h1 : EvT o t σ G b) (h2 : b = true → EvT o u σ G c) : EvT o (tAnd t u) σ G (b && c) := fun H f Q q => h1 H f _ fun a H1 G1 e z => by
  subst z
  cases a with
  | true => exact iteT (((h2 rfl).up e.gg) H1 e.fr Q fun v H2 G2 e2 r => q v H2 G2 (e.trans e2) r)
  | false => exact iteF (q _ H1 G1 e rfl)
theorem evt_or (h1 : EvT o t σ G b) (h2 : b = false → EvT o u σ G c) : EvT o (tOr t u) σ G (b || c) := fun H f Q q => h1 H f _ fun a H1 G1 e z => by
  subst z
  cases a with
  | true => exact iteT (q _ H1 G1 e rfl)
  | false => exact iteF (((h2 rfl).up e.gg) H1 e.fr Q fun v H2 G2 e2 r => q v H2 G2 (e.trans e2) r)
theorem tnot_ (h1 : EvT o t σ G b) (q : (!b) = c) : EvT o (tNot t) σ G c := q ▸ fun H f Q k => h1 H f _ fun a H1 G1 e z => k _ H1 G1 e (by rw [z])
theorem ev_if (h : EvT o t σ G b) (h1 : b = true → EvP o ta σ G Φ) (h2 : b = false → EvP o tb σ G Φ) : EvP o (tIf t ta tb) σ G Φ := fun H f Q q => h H f _ fun a H1 G1 e z => by
  subst z
  cases a with
  | true => exact iteT (((h1 rfl).up e.gg) H1 e.fr Q fun v H2 G2 e2 r => q v H2 G2 (e.trans e2) r)
  | false => exact iteF (((h2 rfl).up e.gg) H1 e.fr Q fun v H2 G2 e2 r => q v H2 G2 (e.trans e2) r)
theorem evd_or_t (h1 : EvD o K ta σ G (.bool true)) : EvD o K (tOrV ta tb) σ G (.bool true) := (evd_or (c := true) h1 fun z => by cases z).to rfl
theorem evd_or_f (h1 : EvD o K ta σ G (.bool false)) (h2 : EvD o K tb σ G (.bool c)) : EvD o K (tOrV ta tb) σ G (.bool c) := (evd_or h1 fun _ => h2).to rfl
theorem evd_and_f (h1 : EvD o K ta σ G (.bool false)) : EvD o K (tAndV ta tb) σ G (.bool false) := (evd_and (c := true) h1 fun z => by cases z).to rfl
theorem evd_and_t (h1 : EvD o K ta σ G (.bool true)) (h2 : EvD o K tb σ G (.bool c)) : EvD o K (tAndV ta tb) σ G (.bool c) := (evd_and h1 fun _ => h2).to rfl
theorem evt_or_t (h1 : EvT o t σ G true) : EvT o (tOr t u) σ G true := (evt_or (c := true) h1 fun z => by cases z).to rfl
theorem evt_or_f (h1 : EvT o t σ G false) (h2 : EvT o u σ G c) : EvT o (tOr t u) σ G c := (evt_or h1 fun _ => h2).to rfl
theorem evt_and_f (h1 : EvT o t σ G false) : EvT o (tAnd t u) σ G false := (evt_and (c := true) h1 fun z => by cases z).to rfl
theorem evt_and_t (h1 : EvT o t σ G true) (h2 : EvT o u σ G c) : EvT o (tAnd t u) σ G c := (evt_and h1 fun _ => h2).to rfl
/-! statements -/
variable {D : Ends} {s1 s2 : TS}
theorem st_ret (f : Fr o G H) (h : EvP o te σ G Φ) (q : ∀ v H1 G1, Ex o G G1 H H1 → Φ.p G1 v → D.rt v H1) : tRet te D σ H := h H f _ q
theorem st_set {n : Nat} (f : Fr o G H) (h : EvP o te σ G Φ) (q : ∀ v H1 G1, Ex o G G1 H H1 → Φ.p G1 v → D.nx (σ.set n (some v)) H1) : tAsg te (gName n) D σ H := h H f _ q
theorem st_expr (f : Fr o G H) (h : EvP o te σ G Φ) (q : ∀ v H1 G1, Ex o G G1 H H1 → Φ.p G1 v → D.nx σ H1) : tDrop te D σ H := h H f _ q
theorem st_if (f : Fr o G H) (h : EvT o t σ G b) (h1 : b = true → ∀ H1 G1, Ex o G G1 H H1 → s1 D σ H1) (h2 : b = false → ∀ H1 G1, Ex o G G1 H H1 → s2 D σ H1) : tIfS t s1 s2 D σ H := h H f _ fun a H1 G1 e z => by
  subst z
  cases a with
  | true => exact iteT (h1 rfl H1 G1 e)
  | false => exact iteF (h2 rfl H1 G1 e)
theorem st_ifB (f : Fr o G H) (h : EvB o t σ G B) (h1 : B true → ∀ H1 G1, Ex o G G1 H H1 → s1 D σ H1) (h2 : B false → ∀ H1 G1, Ex o G G1 H H1 → s2 D σ H1) : tIfS t s1 s2 D σ H := h H f _ fun a H1 G1 e z => by
  cases a with
  | true => exact iteT (h1 z H1 G1 e)
  | false => exact iteF (h2 z H1 G1 e)
theorem st_yes (f : Fr o G H) (h : EvT o t σ G true) (h1 : ∀ H1 G1, Ex o G G1 H H1 → s1 D σ H1) : tIfS t s1 s2 D σ H := st_if f h (fun _ => h1) fun z => by cases z
theorem st_no (f : Fr o G H) (h : EvT o t σ G false) (h1 : ∀ H1 G1, Ex o G G1 H H1 → s2 D σ H1) : tIfS t s1 s2 D σ H := st_if f h (fun z => by cases z) fun _ => h1
/-- name = [], the list beside the frame -/
theorem st_new {n : Nat} (f : Fr o G H) (q : ∀ p, H p = none → Ex o G G H (upd H p (.lst [])) → D.nx (σ.set n (some (.ref p))) (upd H p (.lst []))) : tAsg (tLst tNil) (gName n) D σ H :=
  ⟨by decide, fun p hp => q p hp (Ex.aside f hp)⟩
end

/-! ### promises -/
/-- S: what may be written, what the arguments are, what the answer is -/
def Fn (S : Ow → List Pr → Pr → Prop) : Sp := fun vs H Q _ => ∃ o Φs Ψ G, S o Φs Ψ ∧ Fr o G H ∧ AllP Φs G vs ∧ ∀ v H' G', Ex o G G' H H' → Ψ.p G' v → Q v H'
theorem Fn.len {S : Ow → List Pr → Pr → Prop} {n : Nat} (h : ∀ o Φs Ψ, S o Φs Ψ → Φs.length = n) {vs : List V} {H : Hp} {Q : VK} {E : XK} (p : Fn S vs H Q E) : vs.length = n := by
  obtain ⟨o, Φs, Ψ, G, s, _, a, _⟩ := p
  rw [a.len, h o Φs Ψ s]
theorem ev_call {S : Ow → List Pr → Pr → Prop} {o o' : Ow} {ta : TA} {σ : L2.St} {G : Hp} {Φs : List Pr} {Ψ : Pr} {E : XK} (h : EvA o ta σ G Φs) (s : S o' Φs Ψ) (ho : o' = .no ∨ o' = o) : EvP o (tCall (Fn S) [] E ta) σ G Ψ := fun H f Q q =>
  h H f _ fun vs H1 G1 e1 ps => by
    show Fn S (vs ++ []) H1 Q E
    rw [List.append_nil]
    rcases ho with rfl | rfl
    · exact ⟨.no, Φs, Ψ, G1, s, e1.fr.no, ps, fun v H2 G2 e2 p => q v H2 G2 (e1.trans (e2.lift e1.fr)) p⟩
    · exact ⟨_, Φs, Ψ, G1, s, e1.fr, ps, fun v H2 G2 e2 p => q v H2 G2 (e1.trans e2) p⟩
/-- data to a datum, nothing written -/
def SD (K : PySem.W.Frag) (n : Nat) (R : List PyData → PyData → Prop) : Ow → List Pr → Pr → Prop := fun o Φs Ψ => o = .no ∧ ∃ ds d, ds.length = n ∧ R ds d ∧ Φs = ds.map (PD K) ∧ Ψ = PD K d
abbrev FnR (K : PySem.W.Frag) (n : Nat) (R : List PyData → PyData → Prop) : Sp := Fn (SD K n R)
theorem FnR.len {K : PySem.W.Frag} {n : Nat} {R : List PyData → PyData → Prop} {vs : List V} {H : Hp} {Q : VK} {E : XK} (h : FnR K n R vs H Q E) : vs.length = n := Fn.len (fun o Φs Ψ ⟨_, ds, d, h1, _, h3, _⟩ => by rw [h3, List.length_map, h1]) h
theorem evd_call {K : PySem.W.Frag} {o : Ow} {n : Nat} {R : List PyData → PyData → Prop} {ta : TA} {σ : L2.St} {G : Hp} {ds : List PyData} {d : PyData} {E : XK} (h : EvA o ta σ G (ds.map (PD K))) (hn : ds.length = n) (r : R ds d) : EvD o K (tCall (FnR K n R) [] E ta) σ G d :=
  ev_call h ⟨rfl, ds, d, hn, r, rfl, rfl⟩ (.inl rfl)
/-- what a body of such a def is given -/
theorem FnR.open {K : PySem.W.Frag} {n : Nat} {R : List PyData → PyData → Prop} {vs : List V} {H : Hp} {Q : VK} {E : XK} (h : FnR K n R vs H Q E) : ∃ ds d G, ds.length = n ∧ R ds d ∧ Fr .no G H ∧ DpAll K G vs ds ∧ ∀ v H' G', Ex .no G G' H H' → (PD K d).p G' v → Q v H' := by
  obtain ⟨o, Φs, Ψ, G, ⟨rfl, ds, d, h1, h2, rfl, rfl⟩, f, a, q⟩ := h
  exact ⟨ds, d, G, h1, h2, f, allp_da a, q⟩
end Fm
set_option maxHeartbeats 4000000
/-! FmC2: readings of the built-in calls over data. -/
namespace Fm
open PySem PySem.Spec PyProof.Rows L2
section
variable {o : Ow} {K : PySem.W.Frag} {w : World} {σ : L2.St} {G : Hp} {ta tb : TE} {d e r : PyData} {ds rs : List PyData}
theorem ev_all2 (h1 : EvD o K ta σ G d) (h2 : EvD o K tb σ G e) : EvA o (tCons ta (tCons tb tNil)) σ G [PD K d, PD K e] := eva_cons h1 (eva_cons h2 eva_nil)
theorem allp1 {Φ : Pr} {vs : List V} (h : AllP [Φ] G vs) : ∃ v, vs = [v] ∧ Φ.p G v := by
  match vs, h with
  | [v], h => exact ⟨v, rfl, h.1⟩
  | [], h => exact h.elim
  | _ :: _ :: _, h => exact h.2.elim
theorem allp2 {Φ Ψ : Pr} {vs : List V} (h : AllP [Φ, Ψ] G vs) : ∃ v u, vs = [v, u] ∧ Φ.p G v ∧ Ψ.p G u := by
  match vs, h with
  | v :: us, h =>
    obtain ⟨u, rfl, q⟩ := allp1 h.2
    exact ⟨v, u, rfl, h.1, q⟩
  | [], h => exact h.elim
theorem maxD_ (h1 : EvD o K ta σ G d) (h2 : EvD o K tb σ G e) (c : Cmp2 d e) (q : (if PySem.W.dataLt d e = true then e else d) = r) : EvD o K (tCB (rMaxD K) (tCons ta (tCons tb tNil))) σ G r := ev_cb (ev_all2 h1 h2) fun G2 H2 xs _ f p Q k => by
  obtain ⟨v, u, rfl, p1, p2⟩ := allp2 p
  refine ⟨v, u, d, e, rfl, dsame p1 f.sub, dsame p2 f.sub, c, k _ H2 G2 (Ex.refl f) ?_⟩
  rw [← q]
  split
  · exact p2
  · exact p1
theorem minD_ (h1 : EvD o K ta σ G d) (h2 : EvD o K tb σ G e) (c : Cmp2 d e) (q : (if PySem.W.dataLt e d = true then e else d) = r) : EvD o K (tCB (rMinD K) (tCons ta (tCons tb tNil))) σ G r := ev_cb (ev_all2 h1 h2) fun G2 H2 xs _ f p Q k => by
  obtain ⟨v, u, rfl, p1, p2⟩ := allp2 p
  refine ⟨v, u, d, e, rfl, dsame p1 f.sub, dsame p2 f.sub, c, k _ H2 G2 (Ex.refl f) ?_⟩
  rw [← q]
  split
  · exact p2
  · exact p1
theorem sortD_ (h1 : EvD o K ta σ G (.list ds)) (c : Srtb ds) (q : srt ds = rs) : EvD o K (tCB (rSortD K) (tCons ta tNil)) σ G (.list rs) := q ▸ ev_cb (eva_cons h1 eva_nil) fun G2 H2 xs _ f p Q k => by
  obtain ⟨v, rfl, p1⟩ := allp1 p
  obtain ⟨a, xs, rfl, hx, hd⟩ := dp_lst p1
  refine ⟨G2, a, xs, ds, rfl, f.sub, Same.lst f.sub hx, hd, c, fun ys p hy hp => ?_⟩
  have e := Ex.made (u := .lst ys) f hp
  exact k _ _ _ e (Dp.lst (.inl (.inl upd_same)) (dasame hy e.gg))
theorem repr_ (h1 : EvD o K ta σ G d) (c : Shw d) : EvD o K (tCB (rRepr K) (tCons ta tNil)) σ G (.str d.shown) := ev_cb (eva_cons h1 eva_nil) fun G2 H2 xs _ f p Q k => by
  obtain ⟨v, rfl, p1⟩ := allp1 p
  exact ⟨v, d, rfl, dsame p1 f.sub, c, k _ H2 G2 (Ex.refl f) (Dp.str _)⟩
/-- the data of a list or a tuple -/
def PSq (K : PySem.W.Frag) (ds : List PyData) : Pr := ⟨fun G v => ∃ a xs, v = .ref a ∧ (SqL K G a xs ∨ SqT K G a xs) ∧ DpAll K G xs ds, fun s ⟨a, xs, e, h1, h2⟩ => ⟨a, xs, e, h1.imp (Same.lst s) (Same.tup s), dasame h2 s⟩⟩
theorem ps_list {G : Hp} {v : V} (h : Dp K G v (.list ds)) : (PSq K ds).p G v := by
  obtain ⟨a, xs, e, h1, h2⟩ := dp_lst h
  exact ⟨a, xs, e, .inl h1, h2⟩
theorem ps_tup {G : Hp} {v : V} (h : Dp K G v (.tuple ds)) : (PSq K ds).p G v := by
  obtain ⟨a, xs, e, h1, h2⟩ := dp_tup h
  exact ⟨a, xs, e, .inr h1, h2⟩
theorem sortset_ (h1 : EvP o ta σ G (PSq K ds)) (c : Hset ds) (c2 : Srtb ds) (u : ∀ es fs, Uniq ds es → fs.Perm es → srt fs = rs) : EvD o K (tCB (rSortS K w) (tCons (tCB (rSet K w) (tCons ta tNil)) tNil)) σ G (.list rs) := fun H f Q k =>
  h1 H f _ fun v H2 G2 e ⟨l, xs, ev, hx, hd⟩ => by
    subst ev
    refine ⟨G2, l, xs, ds, rfl, e.fr.sub, hx.imp (Same.lst e.fr.sub) (Same.tup e.fr.sub), hd, c, fun a ys es ha hy un => ?_⟩
    have e2 := Ex.aside (u := SetB w a ys) e.fr ha
    have fewE : es.length ≤ 100000 := by
      have n1 : (es.map keyD).length ≤ (ds.map keyD).length := pigeon _ _ un.nd (fun x hx => by
        obtain ⟨d, hd, rfl⟩ := List.mem_map.mp hx
        exact List.mem_map.mpr ⟨d, un.sub d hd, rfl⟩)
      rw [List.length_map, List.length_map] at n1
      have := c.few
      omega
    refine ⟨G2, a, ys, es, rfl, e2.fr.sub, upd_same, hy, c2.sub un.sub fewE, fun fs zs p hf hz hp => ?_⟩
    rw [u es fs un hf] at hz
    have e3 := Ex.made (u := .lst zs) e2.fr hp
    exact k _ _ _ ((e.trans e2).trans e3) (Dp.lst (.inl (.inl upd_same)) (dasame hz e3.gg))
theorem lenset_ {n : Nat} (h1 : EvP o ta σ G (PSq K ds)) (c : Hset ds) (u : ∀ es, Uniq ds es → es.length = n) : EvD o K (tCB (rLenS K w) (tCons (tCB (rSet K w) (tCons ta tNil)) tNil)) σ G (.int n) := fun H f Q k =>
  h1 H f _ fun v H2 G2 e ⟨l, xs, ev, hx, hd⟩ => by
    subst ev
    refine ⟨G2, l, xs, ds, rfl, e.fr.sub, hx.imp (Same.lst e.fr.sub) (Same.tup e.fr.sub), hd, c, fun a ys es ha hy un => ?_⟩
    have e2 := Ex.aside (u := SetB w a ys) e.fr ha
    refine ⟨a, ys, rfl, upd_same, ?_⟩
    rw [dalen hy, u es un]
    exact k _ _ _ (e.trans e2) (Dp.int _)
end
end Fm
set_option maxHeartbeats 4000000
/-! FmC3: loops and comprehensions in the frame. -/
namespace Fm
open PySem PySem.Spec PyProof.Rows L2
/-- what is walked: things that stay in the frame -/
def ItOk (o : Ow) (wi : TI) (σ : L2.St) (G : Hp) (fs : List Pr) : Prop := ∀ H, Fr o G H → ∀ R : It → Hp → Prop, (∀ J H' G' xs, Ex o G G' H H' → AllP fs G' xs → (∀ H2 i, Same G' H2 → i < xs.length → J.go i H2) → (∀ H2 i, Same G' H2 → xs.length ≤ i → J.stop i H2) →
  (∀ i H2 x H3, Same G' H2 → J.yld i H2 x H3 → i < xs.length → H3 = H2 ∧ xs[i]? = some x) → R J H') → wi σ H R
section
variable {o : Ow} {K : PySem.W.Frag} {σ : L2.St} {G H : Hp} {te tl : TE} {fs : List Pr} {g : TG} {tb : TS} {D : Ends} {tt : TT} {vs : List Nat} {wi : TI}
theorem ito_list (h : EvP o tl σ G (PL K fs)) : ItOk o (iList K tl) σ G fs := fun H f R q => h H f _ fun v H' G' e ⟨a, xs, ev, h1, h2⟩ =>
  ⟨a, ev, ⟨xs, Same.lst e.fr.sub h1⟩, q _ H' G' xs e h2 (fun H2 i s hi => ⟨xs, xs[i], Same.lst s h1, List.getElem?_eq_getElem hi⟩) (fun H2 i s hi => ⟨xs, Same.lst s h1, hi⟩) fun i H2 x H3 s ⟨y1, y2⟩ _ => ⟨y1, y2 xs (Same.lst s h1)⟩⟩
theorem ito_tup (h : EvP o tl σ G (PTu K fs)) : ItOk o (iTup K tl) σ G fs := fun H f R q => h H f _ fun v H' G' e ⟨a, xs, ev, h1, h2⟩ =>
  ⟨a, ev, ⟨xs, Same.tup e.fr.sub h1⟩, q _ H' G' xs e h2 (fun H2 i s hi => ⟨xs, xs[i], Same.tup s h1, List.getElem?_eq_getElem hi⟩) (fun H2 i s hi => ⟨xs, Same.tup s h1, hi⟩) fun i H2 x H3 s ⟨y1, y2⟩ _ => ⟨y1, y2 xs (Same.tup s h1)⟩⟩
theorem ito_listD {ds : List PyData} (h : EvD o K tl σ G (.list ds)) : ItOk o (iList K tl) σ G (ds.map (PD K)) := ito_list (h.imp fun _ _ _ p => pl_data.mpr p)
theorem ito_tupD {ds : List PyData} (h : EvD o K tl σ G (.tuple ds)) : ItOk o (iTup K tl) σ G (ds.map (PD K)) := ito_tup (h.imp fun _ _ _ p => pt_data.mpr p)
/-- a list or a tuple -/
def iSeq (K : PySem.W.Frag) (tl : TE) : TI := fun σ H R => tl σ H fun x H1 => ∃ a, x = .ref a ∧ (((∃ xs, SqL K H1 a xs) ∧ R (Itl K a) H1) ∨ ((∃ xs, SqT K H1 a xs) ∧ R (Itt K a) H1))
theorem pi_seq {X : Cx} {tg l : Expr} {tl : TE} (hl : PE X l tl) : PI X tg l (iSeq X.K tl) := by
  refine ⟨fun pins s σ H R I h => thn (hl.run pins s σ H _ I h) fun v s1 ⟨x, H1, I1, r1, q1⟩ => ?_⟩
  obtain ⟨a, rfl, q1⟩ := q1
  cases r1
  have fp : ∀ b ∈ [s1.heap.objs.size], FpOk X pins H1 b := fun b hb => by
    rw [List.mem_singleton.mp hb]
    exact I1.fpOk (Nat.le_refl _) (I1.hok.fresh (Nat.le_refl _))
  rcases q1 with ⟨⟨xs, hq⟩, q⟩ | ⟨⟨xs, hq⟩, q⟩
  · obtain ⟨its, rv, p, hz⟩ := I1.list hq
    exact wpAny_pyIter_list p.isList ⟨_, [s1.heap.objs.size], _, _, H1, rfl, I1.kept (t' := s1.toks) fun b o e => Heap.get?_push_of_some _ e, turn_list a _, ⟨_, Heap.get?_push_size _ rfl, rfl, rfl⟩, fp, q⟩
  · obtain ⟨its, rv, p, hz⟩ := I1.tuple hq
    exact wpAny_pyIter_tuple (show s1.heap.IsTuple a its.toArray from p) ⟨_, [s1.heap.objs.size], _, _, H1, rfl, I1.kept (t' := s1.toks) fun b o e => Heap.get?_push_of_some _ e, turn_tuple a _, ⟨_, Heap.get?_push_size _ rfl, rfl, rfl⟩, fp, q⟩
theorem ito_seq {ds : List PyData} (h : EvP o tl σ G (PSq K ds)) : ItOk o (iSeq K tl) σ G (ds.map (PD K)) := fun H f R q => h H f _ fun v H' G' e ⟨a, xs, ev, h1, h2⟩ => by
  refine ⟨a, ev, ?_⟩
  rcases h1 with h1 | h1
  · exact .inl ⟨⟨xs, Same.lst e.fr.sub h1⟩, q _ H' G' xs e (da_allp h2) (fun H2 i s hi => ⟨xs, xs[i], Same.lst s h1, List.getElem?_eq_getElem hi⟩) (fun H2 i s hi => ⟨xs, Same.lst s h1, hi⟩) fun i H2 x H3 s ⟨y1, y2⟩ _ => ⟨y1, y2 xs (Same.lst s h1)⟩⟩
  · exact .inr ⟨⟨xs, Same.tup e.fr.sub h1⟩, q _ H' G' xs e (da_allp h2) (fun H2 i s hi => ⟨xs, xs[i], Same.tup s h1, List.getElem?_eq_getElem hi⟩) (fun H2 i s hi => ⟨xs, Same.tup s h1, hi⟩) fun i H2 x H3 s ⟨y1, y2⟩ _ => ⟨y1, y2 xs (Same.tup s h1)⟩⟩
def signsP (K : PySem.W.Frag) (l : List Nat) : List Pr := l.map fun c => PD K (.str ⟨#[c]⟩)
theorem allp_signs : ∀ (l : List Nat), AllP (signsP K l) G (l.map fun c => .str ⟨#[c]⟩)
  | [] => True.intro
  | c :: l => ⟨Dp.str _, allp_signs l⟩
theorem ito_str {x : Str} (h : EvD o K tl σ G (.str x)) : ItOk o (iStr tl) σ G (signsP K x.cps.toList) := fun H f R q => h H f _ fun v H' G' e p =>
  ⟨x, dp_str p, q _ H' G' (x.cps.toList.map fun c => .str ⟨#[c]⟩) e (allp_signs _) (fun H2 i s hi => by show i < x.cps.size; simpa [List.length_map] using hi) (fun H2 i s hi => by show x.cps.size ≤ i; simpa [List.length_map] using hi) fun i H2 v H3 s ⟨y1, c, y2, y3⟩ _ => ⟨y1, by
    rw [List.getElem?_map, Array.getElem?_toList, y2, y3] <;> rfl⟩⟩
def intsP (K : PySem.W.Frag) (lo : Int) : Nat → List Pr
  | 0 => []
  | n + 1 => PD K (.int lo) :: intsP K (lo + 1) n
def intsV (lo : Int) : Nat → List V
  | 0 => []
  | n + 1 => .int lo :: intsV (lo + 1) n
theorem allp_ints : ∀ (n : Nat) (lo : Int), AllP (intsP K lo n) G (intsV lo n)
  | 0, _ => True.intro
  | n + 1, lo => ⟨Dp.int _, allp_ints n (lo + 1)⟩
theorem intsV_len : ∀ (n : Nat) (lo : Int), (intsV lo n).length = n
  | 0, _ => rfl
  | n + 1, lo => by rw [intsV, List.length_cons, intsV_len n]
theorem intsP_len : ∀ (n : Nat) (lo : Int), (intsP K lo n).length = n
  | 0, _ => rfl
  | n + 1, lo => by rw [intsP, List.length_cons, intsP_len n]
theorem intsV_at : ∀ (n : Nat) (lo : Int) (i : Nat), i < n → (intsV lo n)[i]? = some (.int (lo + i))
  | 0, _, _, h => absurd h (Nat.not_lt_zero _)
  | n + 1, lo, 0, _ => by simp [intsV]
  | n + 1, lo, i + 1, h => by
    rw [intsV, List.getElem?_cons_succ, intsV_at n (lo + 1) i (by omega)]
    congr 2
    omega
theorem intsP_at : ∀ (n : Nat) (lo : Int) (i : Nat), i < n → (intsP K lo n)[i]? = some (PD K (.int (lo + i)))
  | 0, _, _, h => absurd h (Nat.not_lt_zero _)
  | n + 1, lo, 0, _ => by simp [intsP]
  | n + 1, lo, i + 1, h => by
    rw [intsP, List.getElem?_cons_succ, intsP_at n (lo + 1) i (by omega)]
    congr 3
    omega
theorem ito_range1 {n : Nat} {j : Int} {ta : TA} (h : EvA o ta σ G [PD K (.int j)]) (hj : j = n) (hn : n < 2 ^ 62) : ItOk o (iRng1 ta) σ G (intsP K 0 n) := fun H f R q => h H f _ fun v H' G' e p => by
  obtain ⟨x, rfl, px⟩ := allp1 p
  subst hj
  refine ⟨n, by rw [dp_int px], by omega, by omega, q _ H' G' (intsV 0 n) e (allp_ints n 0) (fun H2 i s hi => by rw [intsV_len] at hi; show i < (n : Int).toNat; omega) (fun H2 i s hi => by rw [intsV_len] at hi; show (n : Int).toNat ≤ i; omega) fun i H2 v H3 s ⟨y1, y2⟩ hi => ⟨y1, ?_⟩⟩
  rw [intsV_len] at hi
  rw [intsV_at n 0 i hi, y2]
theorem ito_range2 {i j : Int} {ta : TA} (h : EvA o ta σ G [PD K (.int i), PD K (.int j)]) (hi : -(2 ^ 62) ≤ i ∧ i < 2 ^ 62) (hj : -(2 ^ 62) ≤ j ∧ j < 2 ^ 62) : ItOk o (iRng2 ta) σ G (intsP K i (j - i).toNat) := fun H f R q => h H f _ fun v H' G' e p => by
  obtain ⟨x, y, rfl, px, py⟩ := allp2 p
  refine ⟨i, j, by rw [dp_int px, dp_int py], ⟨hi.1, hi.2, hj.1, hj.2⟩, q _ H' G' (intsV i (j - i).toNat) e (allp_ints _ i) (fun H2 k s hk => by rw [intsV_len] at hk; exact hk) (fun H2 k s hk => by rw [intsV_len] at hk; exact hk) fun k H2 v H3 s ⟨y1, y2⟩ hk => ⟨y1, ?_⟩⟩
  rw [intsV_len] at hk
  rw [intsV_at _ i k hk, y2]

/-! ### for -/
theorem for_ (f : Fr o G H) (hi : ItOk o wi σ G fs) (q : ∀ G1 H1, Ex o G G1 H H1 → ∃ J : Nat → L2.St → Hp → Hp → Prop, J 0 σ G1 H1 ∧ (∀ i σ G H, J i σ G H → Same G1 G ∧ Same G H) ∧
    (∀ i φ x σ G H, fs[i]? = some φ → φ.p G x → J i σ G H → g x σ H fun σ2 H2 => tb { D with nx := fun σ H => ∃ G, J (i + 1) σ G H, ct := fun σ H => ∃ G, J (i + 1) σ G H, bk := D.nx } σ2 H2) ∧ (∀ σ G H, J fs.length σ G H → D.nx σ H)) : tFor wi g tb D σ H := by
  refine hi H f _ fun J H1 G1 xs e ax go st yl => ?_
  obtain ⟨W, w0, wf, ws, wd⟩ := q G1 H1 e
  have hl := ax.len
  refine ⟨fun i m σ H => i + m = xs.length ∧ ∃ G, W i σ G H, ⟨xs.length, by omega, G1, w0⟩, fun i m σ H ⟨em, G2, w⟩ => ?_⟩
  obtain ⟨s1, s2⟩ := wf i σ G2 H w
  by_cases h : i < xs.length
  · refine .inr ⟨go H i (s1.trans s2) h, fun σ H => ∃ G, W (i + 1) σ G H, fun σ' H' w' => ⟨m - 1, by omega, by omega, w'⟩, fun x H' y => ?_⟩
    obtain ⟨rfl, ex⟩ := yl i H x H' (s1.trans s2) y h
    obtain ⟨φ, a, b⟩ := ax.get ex
    exact ws i φ x σ G2 H' a (φ.mono s1 b) w
  · have hi' : i = fs.length := by omega
    refine .inl ⟨st H i (s1.trans s2) (by omega), ?_⟩
    subst hi'
    exact wd σ G2 H w

/-! ### comprehensions -/
inductive Picks {β : Type} (B : β → Bool → Prop) : List β → List β → Prop
  | nil : Picks B [] []
  | yes {b : β} {bs cs : List β} : B b true → Picks B bs cs → Picks B (bs ++ [b]) (cs ++ [b])
  | no {b : β} {bs cs : List β} : B b false → Picks B bs cs → Picks B (bs ++ [b]) cs
theorem Picks.det {β : Type} {p : β → Bool} : ∀ {bs cs : List β}, Picks (fun b c => c = p b) bs cs → cs = bs.filter p := by
  intro bs cs h
  induction h with
  | nil => rfl
  | yes h _ ih => rw [List.filter_append, ← ih, List.filter_cons_of_pos h.symm] <;> rfl
  | no h _ ih => rw [List.filter_append, ← ih, List.filter_cons_of_neg (by rw [← h]; decide)]; simp
theorem Picks.sub {β : Type} {B : β → Bool → Prop} : ∀ {bs cs : List β}, Picks B bs cs → cs.Sublist bs := by
  intro bs cs h
  induction h with
  | nil => exact List.Sublist.refl _
  | yes _ _ ih => exact ih.append (List.Sublist.refl _)
  | no _ _ ih => exact List.Sublist.trans ih (List.sublist_append_left _ _)
theorem lc_B {β : Type} {bs : List β} {Θ : β → Pr} {B : β → Bool → Prop} {ψ : β → Pr} (hi : ItOk o wi σ G (bs.map Θ)) (hn : bs.length ≤ 100000)
    (step : ∀ b ∈ bs, ∀ x G1 H1, Same G G1 → Fr o G1 H1 → (Θ b).p G1 x → ∀ R : L2.St → Hp → Prop, (∀ σ2, wipe σ2 vs = wipe σ vs → EvB o tt σ2 G1 (B b) → (B b true → EvP o te σ2 G1 (ψ b)) → R σ2 H1) → g x (wipe σ vs) H1 R) :
    EvP o (tLc wi g tt te vs) σ G (PE_ { cs : List β // Picks B bs cs } fun cs => PLn (cs.1.map ψ)) := fun H f Q q => hi H f _ fun J H1 G1 xs e ax go st yl D hD => by
  have hl := ax.len
  rw [List.length_map] at hl
  have hm : ¬ o.M D := fun z => by
    obtain ⟨u, hu⟩ := o.al e.fr.res z
    rw [hD] at hu; cases hu
  have hg : ∀ {G' H' : Hp}, Ex o G1 G' H1 H' → True := fun _ => True.intro
  refine ⟨fun i m H => i + m = xs.length ∧ ∃ G' acc cs, Ex o G1 G' H1 H ∧ H D = some (.lst acc) ∧ G' D = none ∧ Picks B (bs.take i) cs ∧ AllP (cs.map ψ) G' acc, ⟨xs.length, by omega, G1, [], [], Ex.aside e.fr hD, upd_same, ?_, ?_, True.intro⟩, fun i m H2 ⟨em, G2, acc, cs, e2, h1, h2, h3, h4⟩ => ?_⟩
  · cases z : G1 D with
    | none => rfl
    | some u => rw [e.fr.sub D u z] at hD; cases hD
  · simpa using Picks.nil
  have s2 : Same G1 H2 := e2.gg.trans e2.fr.sub
  by_cases h : i < xs.length
  · have hib : i < bs.length := by omega
    refine .inr ⟨go H2 i s2 h, fun H => ∃ G' acc cs, Ex o G1 G' H1 H ∧ H D = some (.lst acc) ∧ G' D = none ∧ Picks B (bs.take (i + 1)) cs ∧ AllP (cs.map ψ) G' acc, fun H' w => ⟨m - 1, by omega, by omega, w⟩, fun x H3 y => ?_⟩
    obtain ⟨rfl, ex⟩ := yl i H2 x H3 s2 y h
    obtain ⟨φ, a, b⟩ := ax.get ex
    rw [List.getElem?_map, List.getElem?_eq_getElem hib] at a
    cases a
    have tk : bs.take (i + 1) = bs.take i ++ [bs[i]] := by rw [List.take_succ, List.getElem?_eq_getElem hib] <;> rfl
    refine step bs[i] (List.getElem_mem hib) x G2 H3 (e.gg.trans e2.gg) e2.fr ((Θ _).mono e2.gg b) _ fun σ2 hw ht he => ⟨hw, ht H3 e2.fr _ fun c H4 G4 e4 hc => ?_⟩
    have k4 : H4 D = some (.lst acc) := e4.keep D _ hm h1
    have n4 : G4 D = none := by rw [e4.new D _ h1]; exact h2
    cases c with
    | false =>
      refine iteF ⟨G4, acc, cs, e2.trans e4, k4, n4, ?_, h4.mono e4.gg⟩
      rw [tk]
      exact .no hc h3
    | true =>
      refine iteT (((he hc).up e4.gg) H4 e4.fr _ fun y H5 G5 e5 p5 => ?_)
      have k5 : H5 D = some (.lst acc) := e5.keep D _ hm k4
      have n5 : G5 D = none := by rw [e5.new D _ k4]; exact n4
      have hal : acc.length < sizeLine := by
        rw [h4.len, List.length_map, sizeLine_eq]
        have := h3.sub.length_le
        rw [List.length_take] at this
        omega
      refine ⟨acc, k5, hal, G5, acc ++ [y], cs ++ [bs[i]], ((e2.trans e4).trans e5).wrote hD n5 hm, upd_same, n5, ?_, ?_⟩
      · rw [tk]
        exact .yes hc h3
      · rw [List.map_append]
        exact (h4.mono (e4.gg.trans e5.gg)).app ⟨p5, True.intro⟩
  · have hi' : i = bs.length := by omega
    refine .inl ⟨st H2 i s2 (by omega), q _ H2 (upd G2 D (.lst acc)) (e.trans (e2.took hD h2 hm h1)) ⟨⟨cs, ?_⟩, D, acc, rfl, upd_same, h4.mono (Same.new h2)⟩⟩
    rw [hi', List.take_length] at h3
    exact h3
theorem lc_ {β : Type} {bs : List β} {Θ : β → Pr} {p : β → Bool} {ψ : β → Pr} (hi : ItOk o wi σ G (bs.map Θ)) (hn : bs.length ≤ 100000)
    (step : ∀ b ∈ bs, ∀ x G1 H1, Same G G1 → Fr o G1 H1 → (Θ b).p G1 x → ∀ R : L2.St → Hp → Prop, (∀ σ2, wipe σ2 vs = wipe σ vs → EvT o tt σ2 G1 (p b) → (p b = true → EvP o te σ2 G1 (ψ b)) → R σ2 H1) → g x (wipe σ vs) H1 R) :
    EvP o (tLc wi g tt te vs) σ G (PLn ((bs.filter p).map ψ)) := (lc_B (B := fun b c => c = p b) hi hn fun b hb x G1 H1 s f px R r => step b hb x G1 H1 s f px R fun σ2 hw ht he => r σ2 hw ht fun z => he z.symm).imp fun G1 v _ ⟨⟨cs, h⟩, p⟩ => by
  rw [← h.det]
  exact p
end
/-! ### the state behind a block's targets -/
theorem wipe_get {σ : L2.St} {i : Nat} : ∀ {vs : List Nat}, (wipe σ vs)[i]? = if i ∈ vs then (σ[i]?).map (fun _ => none) else σ[i]?
  | [] => by simp [wipe]
  | v :: vs => by
    rw [wipe, List.getElem?_set, wipe_length, wipe_get (vs := vs)]
    by_cases h : v = i
    · subst h
      by_cases h2 : v < σ.length
      · simp [h2]
      · have : σ[v]? = none := List.getElem?_eq_none (by omega)
        simp [h2, this]
    · by_cases h3 : i ∈ vs
      · simp [h, h3, Ne.symm h]
      · simp [h, h3, Ne.symm h]
theorem wipe_set {σ : L2.St} {n : Nat} {x : Option V} {vs : List Nat} (h : n ∈ vs) (ρ : L2.St) (e : wipe ρ vs = wipe σ vs) : wipe (ρ.set n x) vs = wipe σ vs := by
  apply List.ext_getElem?
  intro i
  have q : (wipe ρ vs)[i]? = (wipe σ vs)[i]? := by rw [e]
  rw [wipe_get, wipe_get] at q
  rw [wipe_get, wipe_get]
  by_cases hi : i ∈ vs
  · rw [if_pos hi, if_pos hi] at q
    rw [if_pos hi, if_pos hi, List.getElem?_set]
    by_cases hn : n = i
    · subst hn
      rw [if_pos rfl]
      by_cases hl : n < ρ.length
      · rw [if_pos hl]
        rw [List.getElem?_eq_getElem hl] at q
        exact q
      · rw [if_neg hl]
        rw [List.getElem?_eq_none (by omega)] at q
        exact q
    · rw [if_neg hn]
      exact q
  · rw [if_neg hi, if_neg hi] at q
    rw [if_neg hi, if_neg hi, List.getElem?_set_ne (fun (z : n = i) => hi (z ▸ h))]
    exact q
theorem wipe_wipe {σ : L2.St} {vs : List Nat} : wipe (wipe σ vs) vs = wipe σ vs := by
  apply List.ext_getElem?
  intro i
  rw [wipe_get, wipe_get]
  by_cases hi : i ∈ vs
  · rw [if_pos hi, if_pos hi]
    cases σ[i]? <;> rfl
  · rw [if_neg hi]
section
variable {o : Ow} {K : PySem.W.Frag} {σ : L2.St} {G H : Hp} {te tl : TE} {fs : List Pr} {tb : TS} {D : Ends} {tt : TT} {vs : List Nat} {wi : TI} {n m : Nat}
/-- one name -/
theorem lc1 {β : Type} {bs : List β} {Θ : β → Pr} {p : β → Bool} {ψ : β → Pr} (hv : n ∈ vs) (hi : ItOk o wi σ G (bs.map Θ)) (hn : bs.length ≤ 100000)
    (step : ∀ b ∈ bs, ∀ x G1, Same G G1 → (Θ b).p G1 x → EvT o tt ((wipe σ vs).set n (some x)) G1 (p b) ∧ (p b = true → EvP o te ((wipe σ vs).set n (some x)) G1 (ψ b))) :
    EvP o (tLc wi (gName n) tt te vs) σ G (PLn ((bs.filter p).map ψ)) :=
  lc_ hi hn fun b hb x G1 H1 s f px R r => r _ (wipe_set hv _ wipe_wipe) (step b hb x G1 s px).1 (step b hb x G1 s px).2
/-- a pair's names -/
theorem lc2 {β : Type} {bs : List β} {Θ1 Θ2 : β → Pr} {p : β → Bool} {ψ : β → Pr} (hv : n ∈ vs) (hv2 : m ∈ vs) (hi : ItOk o wi σ G (bs.map fun b => PTu K [Θ1 b, Θ2 b])) (hn : bs.length ≤ 100000)
    (step : ∀ b ∈ bs, ∀ x y G1, Same G G1 → (Θ1 b).p G1 x → (Θ2 b).p G1 y → EvT o tt (((wipe σ vs).set n (some x)).set m (some y)) G1 (p b) ∧ (p b = true → EvP o te (((wipe σ vs).set n (some x)).set m (some y)) G1 (ψ b))) :
    EvP o (tLc wi (gTup K 2 (gCons (gName n) (gCons (gName m) gNil))) tt te vs) σ G (PLn ((bs.filter p).map ψ)) :=
  lc_ hi hn fun b hb x G1 H1 s f px R r => by
    obtain ⟨a, xs, rfl, h1, h2⟩ := px
    obtain ⟨x, y, rfl, p1, p2⟩ := allp2 h2
    refine ⟨a, [x, y], rfl, Same.tup f.sub h1, rfl, x, [y], rfl, y, [], rfl, rfl, ?_⟩
    exact r _ (wipe_set hv2 _ (wipe_set hv _ wipe_wipe)) (step b hb x y G1 s p1 p2).1 (step b hb x y G1 s p1 p2).2
end
end Fm
set_option maxHeartbeats 4000000
/-! FmC4: more readings: comprehensions over data, tuple(..), list(..), len, any, all, in. -/
namespace Fm
open PySem PySem.Spec PyProof.Rows L2
section
variable {o : Ow} {K : PySem.W.Frag} {σ : L2.St} {G : Hp} {ta tb te tl : TE} {tt : TT} {tr : TA} {d e r : PyData} {ds : List PyData} {vs : List Nat} {wi : TI} {n m : Nat} {Φ : Pr} {Φs : List Pr}
theorem pl_dataf {β : Type} {bs : List β} {f : β → PyData} {v : V} (h : (PL K (bs.map fun b => PD K (f b))).p G v) : (PD K (.list (bs.map f))).p G v := by
  refine pl_data.mp ?_
  rw [List.map_map]
  exact h
theorem pl_datafn {β : Type} {bs : List β} {f : β → PyData} {v : V} (h : (PLn (bs.map fun b => PD K (f b))).p G v) : (PN K (bs.map f)).p G v := by
  refine pln_n ?_
  rw [List.map_map]
  exact h
/-- [f for x in ..] -/
theorem lcn1 {β : Type} {bs : List β} {Θ : β → Pr} {f : β → PyData} (hv : n ∈ vs) (hi : ItOk o wi σ G (bs.map Θ)) (hn : bs.length ≤ 100000)
    (step : ∀ b ∈ bs, ∀ x G1, Same G G1 → (Θ b).p G1 x → EvD o K te ((wipe σ vs).set n (some x)) G1 (f b)) : EvP o (tLc wi (gName n) tYes te vs) σ G (PN K (bs.map f)) :=
  (lc1 (p := fun _ => true) (ψ := fun b => PD K (f b)) hv hi hn fun b hb x G1 s p => ⟨evt_yes, fun _ => step b hb x G1 s p⟩).imp fun G1 v _ p => by
    rw [List.filter_eq_self.mpr (fun _ _ => rfl)] at p
    exact pl_datafn p
theorem lcd1 {β : Type} {bs : List β} {Θ : β → Pr} {f : β → PyData} (hv : n ∈ vs) (hi : ItOk o wi σ G (bs.map Θ)) (hn : bs.length ≤ 100000)
    (step : ∀ b ∈ bs, ∀ x G1, Same G G1 → (Θ b).p G1 x → EvD o K te ((wipe σ vs).set n (some x)) G1 (f b)) : EvD o K (tLc wi (gName n) tYes te vs) σ G (.list (bs.map f)) :=
  (lcn1 hv hi hn step).imp fun _ _ _ p => pn_d p
theorem lcf1 {β : Type} {bs : List β} {Θ : β → Pr} {p : β → Bool} {f : β → PyData} (hv : n ∈ vs) (hi : ItOk o wi σ G (bs.map Θ)) (hn : bs.length ≤ 100000)
    (step : ∀ b ∈ bs, ∀ x G1, Same G G1 → (Θ b).p G1 x → EvT o tt ((wipe σ vs).set n (some x)) G1 (p b) ∧ (p b = true → EvD o K te ((wipe σ vs).set n (some x)) G1 (f b))) : EvD o K (tLc wi (gName n) tt te vs) σ G (.list ((bs.filter p).map f)) :=
  (lc1 (p := p) (ψ := fun b => PD K (f b)) hv hi hn step).imp fun G1 v _ p => pn_d (pl_datafn p)
theorem lcd2 {β : Type} {bs : List β} {Θ1 Θ2 : β → Pr} {f : β → PyData} (hv : n ∈ vs) (hv2 : m ∈ vs) (hi : ItOk o wi σ G (bs.map fun b => PTu K [Θ1 b, Θ2 b])) (hn : bs.length ≤ 100000)
    (step : ∀ b ∈ bs, ∀ x y G1, Same G G1 → (Θ1 b).p G1 x → (Θ2 b).p G1 y → EvD o K te (((wipe σ vs).set n (some x)).set m (some y)) G1 (f b)) : EvD o K (tLc wi (gTup K 2 (gCons (gName n) (gCons (gName m) gNil))) tYes te vs) σ G (.list (bs.map f)) :=
  (lc2 (K := K) (p := fun _ => true) (ψ := fun b => PD K (f b)) hv hv2 hi hn fun b hb x y G1 s p1 p2 => ⟨evt_yes, fun _ => step b hb x y G1 s p1 p2⟩).imp fun G1 v _ p => by
    rw [List.filter_eq_self.mpr (fun _ _ => rfl)] at p
    exact pn_d (pl_datafn p)
theorem ito_seqF {β : Type} {bs : List β} {enc : β → PyData} (h : EvP o tl σ G (PSq K (bs.map enc))) : ItOk o (iSeq K tl) σ G (bs.map fun b => PD K (enc b)) := by
  have q := ito_seq h
  rw [List.map_map] at q
  exact q
theorem ito_listF {β : Type} {bs : List β} {enc : β → PyData} (h : EvD o K tl σ G (.list (bs.map enc))) : ItOk o (iList K tl) σ G (bs.map fun b => PD K (enc b)) := by
  have q := ito_listD h
  rw [List.map_map] at q
  exact q
theorem ito_tupF {β : Type} {bs : List β} {enc : β → PyData} (h : EvD o K tl σ G (.tuple (bs.map enc))) : ItOk o (iTup K tl) σ G (bs.map fun b => PD K (enc b)) := by
  have q := ito_tupD h
  rw [List.map_map] at q
  exact q
theorem ItOk.imp {fs gs : List Pr} (h : ItOk o wi σ G fs) (f : ∀ G xs, AllP fs G xs → AllP gs G xs) : ItOk o wi σ G gs := fun H fr R q => h H fr R fun J H1 G1 xs e ax go st yl => q J H1 G1 xs e (f G1 xs ax) go st yl
theorem allp_imp {β : Type} {f g : β → Pr} {G : Hp} : ∀ {bs : List β} {xs : List V}, (∀ b ∈ bs, ∀ v, (f b).p G v → (g b).p G v) → AllP (bs.map f) G xs → AllP (bs.map g) G xs
  | [], [], _, _ => True.intro
  | b :: bs, x :: xs, h, a => ⟨h b List.mem_cons_self x a.1, allp_imp (fun b hb => h b (List.mem_cons_of_mem _ hb)) a.2⟩
  | [], _ :: _, _, a => a.elim
  | _ :: _, [], _, a => a.elim
theorem ItOk.of {β : Type} {bs : List β} {f g : β → Pr} (h : ItOk o wi σ G (bs.map f)) (i : ∀ b ∈ bs, ∀ G v, (f b).p G v → (g b).p G v) : ItOk o wi σ G (bs.map g) := h.imp fun G xs a => allp_imp (fun b hb v p => i b hb G v p) a
theorem g_pair {v : V} {H : Hp} {Q : L2.St → Hp → Prop} (h : Dp K G v (.tuple [d, e])) (s : Same G H) (q : ∀ x y, Dp K G x d → Dp K G y e → Q ((σ.set n (some x)).set m (some y)) H) : gTup K 2 (gCons (gName n) (gCons (gName m) gNil)) v σ H Q := by
  obtain ⟨a, xs, rfl, h1, h2⟩ := dp_tup h
  obtain ⟨x, y, rfl, p1, p2⟩ := dpall2 h2
  exact ⟨a, [x, y], rfl, Same.tup s h1, rfl, x, [y], rfl, y, [], rfl, rfl, q x y p1 p2⟩
theorem at_last {ds : List PyData} {d : PyData} : atI (ds ++ [d]) (-1) = some d := by
  have e : ixN (ds ++ [d]).length (-1) = some ds.length := by
    rw [List.length_append, List.length_singleton]
    unfold ixN
    rw [if_neg (by decide), if_pos (by omega)]
    congr 1
    omega
  unfold atI
  rw [e]
  show (ds ++ [d])[ds.length]? = some d
  simp
/-! tuple(..), list(..), len(..) -/
abbrev rTupOf (K : PySem.W.Frag) : List V → Hp → VK → Prop := fun xs H Q => ∃ p ys, xs = [.ref p] ∧ ((SqL K H p ys ∧ ∀ l, H l = none → Q (.ref l) (upd H l (.tup ys))) ∨ (SqT K H p ys ∧ Q (.ref p) H))
abbrev rLstOf (K : PySem.W.Frag) : List V → Hp → VK → Prop := fun xs H Q => ∃ p ys, xs = [.ref p] ∧ (SqL K H p ys ∨ SqT K H p ys) ∧ ∀ l, H l = none → Q (.ref l) (upd H l (.lst ys))
abbrev rLenOf (K : PySem.W.Frag) : List V → Hp → VK → Prop := fun xs H Q => ∃ p ys, xs = [.ref p] ∧ (SqL K H p ys ∨ SqT K H p ys) ∧ Q (.int ys.length) H
theorem crTup {X : Cx} {K : PySem.W.Frag} (h : X.K = K) : CallR X (.type "tuple") (rTupOf K) := h ▸ call_tuple_of
theorem crLst {X : Cx} {K : PySem.W.Frag} (h : X.K = K) : CallR X (.type "list") (rLstOf K) := h ▸ call_list_of
theorem crLen {X : Cx} {K : PySem.W.Frag} (h : X.K = K) : CallR X (.builtin "len") (rLenOf K) := h ▸ call_len_seq
theorem tupL_ (h : EvP o ta σ G (PL K Φs)) : EvP o (tCB (rTupOf K) (tCons ta tNil)) σ G (PTu K Φs) := ev_cb (eva_cons h eva_nil) fun G2 H2 xs _ f p Q k => by
  obtain ⟨v, rfl, a, ys, rfl, h1, h2⟩ := allp1 p
  refine ⟨a, ys, rfl, .inl ⟨Same.lst f.sub h1, fun l hl => ?_⟩⟩
  have e := Ex.made (u := .tup ys) f hl
  exact k _ _ _ e ⟨l, ys, rfl, .inl (.inl upd_same), h2.mono e.gg⟩
theorem tupT_ (h : EvP o ta σ G (PTu K Φs)) : EvP o (tCB (rTupOf K) (tCons ta tNil)) σ G (PTu K Φs) := ev_cb (eva_cons h eva_nil) fun G2 H2 xs _ f p Q k => by
  obtain ⟨v, rfl, a, ys, rfl, h1, h2⟩ := allp1 p
  exact ⟨a, ys, rfl, .inr ⟨Same.tup f.sub h1, k _ _ _ (Ex.refl f) ⟨a, ys, rfl, h1, h2⟩⟩⟩
theorem tupLD_ (h : EvD o K ta σ G (.list ds)) : EvD o K (tCB (rTupOf K) (tCons ta tNil)) σ G (.tuple ds) := (tupL_ (h.imp fun _ _ _ p => pl_data.mpr p)).imp fun _ _ _ p => pt_data.mp p
theorem tupTD_ (h : EvD o K ta σ G (.tuple ds)) : EvD o K (tCB (rTupOf K) (tCons ta tNil)) σ G (.tuple ds) := (tupT_ (h.imp fun _ _ _ p => pt_data.mpr p)).imp fun _ _ _ p => pt_data.mp p
theorem lstL_ (h : EvP o ta σ G (PL K Φs)) : EvP o (tCB (rLstOf K) (tCons ta tNil)) σ G (PL K Φs) := ev_cb (eva_cons h eva_nil) fun G2 H2 xs _ f p Q k => by
  obtain ⟨v, rfl, a, ys, rfl, h1, h2⟩ := allp1 p
  refine ⟨a, ys, rfl, .inl (Same.lst f.sub h1), fun l hl => ?_⟩
  have e := Ex.made (u := .lst ys) f hl
  exact k _ _ _ e ⟨l, ys, rfl, .inl (.inl upd_same), h2.mono e.gg⟩
theorem lstT_ (h : EvP o ta σ G (PTu K Φs)) : EvP o (tCB (rLstOf K) (tCons ta tNil)) σ G (PL K Φs) := ev_cb (eva_cons h eva_nil) fun G2 H2 xs _ f p Q k => by
  obtain ⟨v, rfl, a, ys, rfl, h1, h2⟩ := allp1 p
  refine ⟨a, ys, rfl, .inr (Same.tup f.sub h1), fun l hl => ?_⟩
  have e := Ex.made (u := .lst ys) f hl
  exact k _ _ _ e ⟨l, ys, rfl, .inl (.inl upd_same), h2.mono e.gg⟩
theorem lstN_ (h : EvP o ta σ G (PSq K ds)) : EvP o (tCB (rLstOf K) (tCons ta tNil)) σ G (PN K ds) := ev_cb (eva_cons h eva_nil) fun G2 H2 xs _ f p Q k => by
  obtain ⟨v, rfl, a, ys, rfl, h1, h2⟩ := allp1 p
  refine ⟨a, ys, rfl, h1.imp (Same.lst f.sub) (Same.tup f.sub), fun l hl => ?_⟩
  have e := Ex.made (u := .lst ys) f hl
  exact k _ _ _ e ⟨l, ys, rfl, upd_same, dasame h2 e.gg⟩
theorem lstLD_ (h : EvD o K ta σ G (.list ds)) : EvD o K (tCB (rLstOf K) (tCons ta tNil)) σ G (.list ds) := (lstL_ (h.imp fun _ _ _ p => pl_data.mpr p)).imp fun _ _ _ p => pl_data.mp p
theorem lstTD_ (h : EvD o K ta σ G (.tuple ds)) : EvD o K (tCB (rLstOf K) (tCons ta tNil)) σ G (.list ds) := (lstT_ (h.imp fun _ _ _ p => pt_data.mpr p)).imp fun _ _ _ p => pl_data.mp p
theorem lenL_ (h : EvP o ta σ G (PL K Φs)) (q : PyData.int Φs.length = r) : EvD o K (tCB (rLenOf K) (tCons ta tNil)) σ G r := q ▸ ev_cb (eva_cons h eva_nil) fun G2 H2 xs _ f p Q k => by
  obtain ⟨v, rfl, a, ys, rfl, h1, h2⟩ := allp1 p
  refine ⟨a, ys, rfl, .inl (Same.lst f.sub h1), k _ _ _ (Ex.refl f) ?_⟩
  rw [h2.len]
  exact Dp.int _
theorem lenLD_ (h : EvD o K ta σ G (.list ds)) (q : PyData.int ds.length = r) : EvD o K (tCB (rLenOf K) (tCons ta tNil)) σ G r := lenL_ (h.imp fun _ _ _ p => pl_data.mpr p) (by rw [List.length_map]; exact q)
/-! any, all -/
theorem any_ {bs : List Bool} (h : EvD o K ta σ G (.list (bs.map .bool))) (q : PyData.bool (bs.any id) = r) : EvD o K (tCB (rAny K) (tCons ta tNil)) σ G r := q ▸ ev_cb (eva_cons h eva_nil) fun G2 H2 xs _ f p Q k => by
  obtain ⟨v, rfl, p'⟩ := allp1 p
  obtain ⟨a, ys, rfl, h1, h2⟩ := dp_lst p'
  rw [dpall_bls h2] at h1
  exact ⟨a, bs, rfl, Same.lst f.sub h1, k _ _ _ (Ex.refl f) (Dp.bl _)⟩
theorem all_ {bs : List Bool} (h : EvD o K ta σ G (.list (bs.map .bool))) (q : PyData.bool (bs.all id) = r) : EvD o K (tCB (rAll K) (tCons ta tNil)) σ G r := q ▸ ev_cb (eva_cons h eva_nil) fun G2 H2 xs _ f p Q k => by
  obtain ⟨v, rfl, p'⟩ := allp1 p
  obtain ⟨a, ys, rfl, h1, h2⟩ := dp_lst p'
  rw [dpall_bls h2] at h1
  exact ⟨a, bs, rfl, Same.lst f.sub h1, k _ _ _ (Ex.refl f) (Dp.bl _)⟩
/-- any([f for x in ..]) -/
theorem anyLc {β : Type} {bs : List β} {Θ : β → Pr} {f : β → Bool} (hv : n ∈ vs) (hi : ItOk o wi σ G (bs.map Θ)) (hn : bs.length ≤ 100000) (q : PyData.bool (bs.any f) = r)
    (step : ∀ b ∈ bs, ∀ x G1, Same G G1 → (Θ b).p G1 x → EvD o K te ((wipe σ vs).set n (some x)) G1 (.bool (f b))) : EvD o K (tCB (rAny K) (tCons (tLc wi (gName n) tYes te vs) tNil)) σ G r := by
  refine any_ (bs := bs.map f) ?_ (by rw [List.any_map]; exact q)
  rw [List.map_map]
  exact lcd1 hv hi hn step
theorem allLc {β : Type} {bs : List β} {Θ : β → Pr} {f : β → Bool} (hv : n ∈ vs) (hi : ItOk o wi σ G (bs.map Θ)) (hn : bs.length ≤ 100000) (q : PyData.bool (bs.all f) = r)
    (step : ∀ b ∈ bs, ∀ x G1, Same G G1 → (Θ b).p G1 x → EvD o K te ((wipe σ vs).set n (some x)) G1 (.bool (f b))) : EvD o K (tCB (rAll K) (tCons (tLc wi (gName n) tYes te vs) tNil)) σ G r := by
  refine all_ (bs := bs.map f) ?_ (by rw [List.all_map]; exact q)
  rw [List.map_map]
  exact lcd1 hv hi hn step
/-! in -/
theorem inV_strs {x : Str} : ∀ {xs : List Str}, inV (.str x) (xs.map V.str) = decide (x ∈ xs)
  | [] => by simp [inV]
  | y :: ys => by
    have ih := inV_strs (x := x) (xs := ys)
    unfold inV at ih ⊢
    rw [List.map_cons, List.any_cons, ih]
    have e : eqV (.str y) (.str x) = decide (y = x) := rfl
    rw [e]
    by_cases h : y = x
    · subst h; simp
    · simp [h, Ne.symm h]
theorem flat_strs : ∀ (xs : List Str), (xs.map V.str).all flatV = true
  | [] => rfl
  | x :: xs => by rw [List.map_cons, List.all_cons, flat_strs xs] <;> rfl
theorem inL_ {x : Str} {xs : List Str} (h1 : EvD o K ta σ G (.str x)) (h2 : EvD o K tb σ G (.list (xs.map .str))) (q : PyData.bool (decide (x ∈ xs)) = r) : EvD o K (tOp (rIn K false) ta tb) σ G r := q ▸ ev_op h1 h2 fun G2 H2 u v _ f p1 p2 Q k => by
  obtain ⟨a, ys, rfl, g1, g2⟩ := dp_lst p2
  have e2 := dpall_strs g2
  subst e2
  rw [dp_str p1]
  exact ⟨a, _, rfl, .inl (Same.lst f.sub g1), rfl, flat_strs xs, k _ _ _ (Ex.refl f) (by rw [inV_strs]; exact Dp.bl _)⟩
theorem notInL_ {x : Str} {xs : List Str} (h1 : EvD o K ta σ G (.str x)) (h2 : EvD o K tb σ G (.list (xs.map .str))) (q : PyData.bool (!decide (x ∈ xs)) = r) : EvD o K (tOp (rIn K true) ta tb) σ G r := q ▸ ev_op h1 h2 fun G2 H2 u v _ f p1 p2 Q k => by
  obtain ⟨a, ys, rfl, g1, g2⟩ := dp_lst p2
  have e2 := dpall_strs g2
  subst e2
  rw [dp_str p1]
  exact ⟨a, _, rfl, .inl (Same.lst f.sub g1), rfl, flat_strs xs, k _ _ _ (Ex.refl f) (by rw [inV_strs]; exact Dp.bl _)⟩
theorem notInT_ {x : Str} {xs : List Str} (h1 : EvD o K ta σ G (.str x)) (h2 : EvD o K tb σ G (.tuple (xs.map .str))) (q : PyData.bool (!decide (x ∈ xs)) = r) : EvD o K (tOp (rIn K true) ta tb) σ G r := q ▸ ev_op h1 h2 fun G2 H2 u v _ f p1 p2 Q k => by
  obtain ⟨a, ys, rfl, g1, g2⟩ := dp_tup p2
  have e2 := dpall_strs g2
  subst e2
  rw [dp_str p1]
  exact ⟨a, _, rfl, .inr (Same.tup f.sub g1), rfl, flat_strs xs, k _ _ _ (Ex.refl f) (by rw [inV_strs]; exact Dp.bl _)⟩
end
/-! ### built-in names -/
structure Zs (mg : Str → Option Value) : Prop where
  any : mg "any" = none
  all : mg "all" = none
  sorted : mg "sorted" = none
  set : mg "set" = none
  tuple : mg "tuple" = none
  list : mg "list" = none
  str : mg "str" = none
  int : mg "int" = none
  dict : mg "dict" = none
  max : mg "max" = none
  min : mg "min" = none
  repr : mg "repr" = none
  isinstance : mg "isinstance" = none
  len : mg "len" = none
  range : mg "range" = none
  enumerate : mg "enumerate" = none
theorem bt_any : bootBuiltins "any" = some (.builtin "any") := by decide +kernel
theorem bt_all : bootBuiltins "all" = some (.builtin "all") := by decide +kernel
theorem bt_sorted : bootBuiltins "sorted" = some (.builtin "sorted") := by decide +kernel
theorem bt_set : bootBuiltins "set" = some (.type "set") := by decide +kernel
theorem bt_tuple : bootBuiltins "tuple" = some (.type "tuple") := by decide +kernel
theorem bt_list : bootBuiltins "list" = some (.type "list") := by decide +kernel
theorem bt_str : bootBuiltins "str" = some (.type "str") := by decide +kernel
theorem bt_int : bootBuiltins "int" = some (.type "int") := by decide +kernel
theorem bt_dict : bootBuiltins "dict" = some (.type "dict") := by decide +kernel
theorem bt_max : bootBuiltins "max" = some (.builtin "max") := by decide +kernel
theorem bt_min : bootBuiltins "min" = some (.builtin "min") := by decide +kernel
theorem bt_repr : bootBuiltins "repr" = some (.builtin "repr") := by decide +kernel
theorem bt_isinstance : bootBuiltins "isinstance" = some (.builtin "isinstance") := by decide +kernel
theorem bt_len : bootBuiltins "len" = some (.builtin "len") := by decide +kernel
theorem bt_range : bootBuiltins "range" = some (.type "range") := by decide +kernel
theorem bt_enumerate : bootBuiltins "enumerate" = some (.type "enumerate") := by decide +kernel
/-! ### lists of ours that grow -/
section
variable {o : Ow} {K : PySem.W.Frag} {σ : L2.St} {G H G0 H0 : Hp} {ta tb te tl : TE} {D : Ends} {n : Nat} {p : Addr} {acc : List V} {Φ : Pr}
/-- the object at p, beside the frame: it may be written -/
structure LocU (o : Ow) (G H : Hp) (p : Addr) (u : HO) : Prop where
  at_ : H p = some u
  out : G p = none
  own : ¬ o.M p
theorem LocU.ex {G1 H1 : Hp} {u : HO} (l : LocU o G H p u) (e : Ex o G G1 H H1) : LocU o G1 H1 p u := ⟨e.keep p _ l.own l.at_, by rw [e.new p _ l.at_]; exact l.out, l.own⟩
theorem LocU.new {u : HO} (f : Fr o G H) (h : H p = none) : LocU o G (upd H p u) p u := by
  refine ⟨upd_same, ?_, fun m => ?_⟩
  · cases z : G p with
    | none => rfl
    | some u => have := f.sub p u z; rw [h] at this; cases this
  · obtain ⟨u, q⟩ := o.al f.res m
    rw [h] at q; cases q
theorem LocU.put {u u' : HO} (l : LocU o G H p u) : LocU o G (upd H p u') p u' := ⟨upd_same, l.out, l.own⟩
/-- another such object is not touched -/
theorem LocU.other {q : Addr} {u u' : HO} (l : LocU o G H p u) (h : p ≠ q) : LocU o G (upd H q u') p u := ⟨by rw [upd_ne h]; exact l.at_, l.out, l.own⟩
theorem LocU.fr_put {u u' : HO} (l : LocU o G H p u) (f : Fr o G H) : Fr o G (upd H p u') := f.wrote l.out l.own
abbrev Loc (o : Ow) (G H : Hp) (p : Addr) (acc : List V) : Prop := LocU o G H p (.lst acc)
theorem Loc.ex {G1 H1 : Hp} (l : Loc o G H p acc) (e : Ex o G G1 H H1) : Loc o G1 H1 p acc := LocU.ex l e
theorem Loc.new (f : Fr o G H) (h : H p = none) : Loc o G (upd H p (.lst acc)) p acc := LocU.new f h
theorem Loc.put (l : Loc o G H p acc) {acc' : List V} : Loc o G (upd H p (.lst acc')) p acc' := LocU.put l
theorem Loc.other {q : Addr} {u : HO} (l : Loc o G H p acc) (h : p ≠ q) : Loc o G (upd H q u) p acc := LocU.other l h
/-- p.append(e) -/
theorem st_append (f : Fr o G H) (l : Loc o G H p acc) (hn : acc.length < 100000) (hv : σ[n]? = some (some (.ref p))) (h : EvP o te σ G Φ)
    (q : ∀ y H1 G1, Ex o G G1 H H1 → Φ.p G1 y → Fr o G1 (upd H1 p (.lst (acc ++ [y]))) → Loc o G1 (upd H1 p (.lst (acc ++ [y]))) p (acc ++ [y]) → D.nx σ (upd H1 p (.lst (acc ++ [y])))) : tDrop (tBM K "list" rAppend (tVar n) (tCons te tNil)) D σ H :=
  ⟨.ref p, hv, .inl ⟨rfl, acc, .inl (.inl l.at_)⟩, h H f _ fun y H1 G1 e py => by
    have l1 := l.ex e
    exact ⟨p, acc, y, rfl, rfl, l1.at_, Nat.lt_of_lt_of_le hn (by decide), q y H1 G1 e py (e.fr.wrote l1.out l1.own) l1.put⟩⟩
end
end Fm
set_option maxHeartbeats 4000000
/-! FmC5: readings that see a list of ours; its items replaced. -/
namespace Fm
open PySem PySem.Spec PyProof.Rows L2
def offH (H : Hp) (a : Addr) : Hp := fun b => if b = a then none else H b
theorem offH_same {H : Hp} {a : Addr} : offH H a a = none := by
  unfold offH
  rw [if_pos rfl]
mutual
theorem dp_drop {K : PySem.W.Frag} {G : Hp} {p : Addr} {acc : List V} : ∀ (d : PyData) (v : V), hashd d = true → Dp K (upd G p (.lst acc)) v d → Dp K G v d
  | .none, _, _, h => by cases h; exact .non
  | .bool _, _, _, h => by cases h; exact .bl _
  | .int _, _, _, h => by cases h; exact .int _
  | .str _, _, _, h => by cases h; exact .str _
  | .list _, _, e, _ => by cases e
  | .dict _, _, e, _ => by cases e
  | .tuple ds, _, e, h => by
    cases h with
    | tup a b =>
      refine .tup ?_ (da_drop ds _ e b)
      rename_i q xs
      rcases a with a | a
      · refine .inl ?_
        have hq : q ≠ p := by
          rintro rfl
          rcases a with a | ⟨u, a⟩
          · rw [upd_same] at a; cases a
          · rw [upd_same] at a; cases a
        rcases a with a | ⟨u, a⟩
        · rw [upd_ne hq] at a; exact .inl a
        · rw [upd_ne hq] at a; exact .inr ⟨u, a⟩
      · exact .inr a
theorem da_drop {K : PySem.W.Frag} {G : Hp} {p : Addr} {acc : List V} : ∀ (ds : List PyData) (vs : List V), hashds ds = true → DpAll K (upd G p (.lst acc)) vs ds → DpAll K G vs ds
  | [], _, _, h => by cases h; exact .nil
  | d :: ds, _, e, h => by
    cases h with
    | cons a b =>
      rw [hashds, Bool.and_eq_true] at e
      exact .cons (dp_drop d _ e.1 a) (da_drop ds _ e.2 b)
end
/-- Φ, where the list at p is seen -/
def Pr.seen (Φ : Pr) (p : Addr) (acc : List V) : Pr := ⟨fun G v => G p = none → Φ.p (upd G p (.lst acc)) v, fun {G G' v} s h n => by
  have hG : G p = none := by
    cases z : G p with
    | none => rfl
    | some u => rw [s p u z] at n; cases n
  refine Φ.mono (fun a u e => ?_) (h hG)
  by_cases q : a = p
  · rw [q] at e ⊢; rw [upd_same] at e ⊢; exact e
  · rw [upd_ne q] at e ⊢; exact s a u e⟩
def RunsB (o : Ow) (G H : Hp) (k : (Bool → Hp → Prop) → Prop) (B : Bool → Prop) : Prop := ∀ Q : Bool → Hp → Prop, (∀ b H' G', Ex o G G' H H' → B b → Q b H') → k Q
section
variable {o : Ow} {K : PySem.W.Frag} {σ : L2.St} {G G1 G2 H H1 : Hp} {te tb : TE} {tt : TT} {p : Addr} {acc : List V} {Φ Ψ : Pr} {B : Bool → Prop} {d : PyData} {D : Ends} {s1 s2 : TS} {n : Nat}
theorem Loc.fr (l : Loc o G H p acc) (f : Fr o G H) : Fr o (upd G p (.lst acc)) H where
  sub := fun a u e => by
    by_cases q : a = p
    · rw [q] at e ⊢; rw [upd_same] at e; rw [l.at_]; exact e
    · rw [upd_ne q] at e; exact f.sub a u e
  ap := fun a m => by
    have : a ≠ p := fun z => l.own (z ▸ m)
    rw [upd_ne this]; exact f.ap a m
  res := f.res
theorem Loc.back (l : Loc o G H p acc) (f : Fr o G H) (e : Ex o (upd G p (.lst acc)) G2 H H1) : ∃ G1, Ex o G G1 H H1 ∧ G2 = upd G1 p (.lst acc) ∧ G1 p = none := by
  have h2 : G2 p = some (.lst acc) := by rw [e.new p _ l.at_, upd_same]
  refine ⟨offH G2 p, ⟨e.keep, fun a u q => ?_, fun a u q => ?_, ⟨fun a u q => ?_, fun a m => ?_, e.fr.res⟩⟩, ?_, offH_same⟩
  · have hp : a ≠ p := by
      rintro rfl
      rw [l.out] at q; cases q
    unfold offH
    rw [if_neg hp]
    exact e.gg a u (by rw [upd_ne hp]; exact q)
  · unfold offH
    by_cases hp : a = p
    · rw [if_pos hp, hp, l.out]
    · rw [if_neg hp, e.new a u q, upd_ne hp]
  · unfold offH at q
    by_cases hp : a = p
    · rw [if_pos hp] at q; cases q
    · rw [if_neg hp] at q; exact e.fr.sub a u q
  · unfold offH
    by_cases hp : a = p
    · rw [if_pos hp]
    · rw [if_neg hp]; exact e.fr.ap a m
  · funext a
    by_cases hp : a = p
    · rw [hp, upd_same, h2]
    · rw [upd_ne hp]
      unfold offH
      rw [if_neg hp]
theorem EvP.seen (h : EvP o te σ (upd G p (.lst acc)) Φ) (l : Loc o G H p acc) (f : Fr o G H) : Runs o G H (te σ H) (Φ.seen p acc) := fun Q q => h H (l.fr f) Q fun v H1 G2 e px => by
  obtain ⟨G1, e1, rfl, n⟩ := l.back f e
  exact q v H1 G1 e1 fun _ => px
theorem EvB.seen (h : EvB o tt σ (upd G p (.lst acc)) B) (l : Loc o G H p acc) (f : Fr o G H) : RunsB o G H (tt σ H) B := fun Q q => h H (l.fr f) Q fun v H1 G2 e px => by
  obtain ⟨G1, e1, rfl, n⟩ := l.back f e
  exact q v H1 G1 e1 px
theorem Runs.imp {k : VK → Prop} (h : Runs o G H k Φ) (g : ∀ v H1 G1, Ex o G G1 H H1 → Φ.p G1 v → Ψ.p G1 v) : Runs o G H k Ψ := fun Q q => h Q fun v H1 G1 e p => q v H1 G1 e (g v H1 G1 e p)
/-- data without lists do not hold the list -/
theorem EvP.seenD (h : EvD o K te σ (upd G p (.lst acc)) d) (hd : hashd d = true) (l : Loc o G H p acc) (f : Fr o G H) : Runs o G H (te σ H) (PD K d) := (EvP.seen h l f).imp fun v H1 G1 e px => dp_drop d v hd (px (by rw [e.new p _ l.at_]; exact l.out))
theorem st_retR (h : Runs o G H (te σ H) Φ) (q : ∀ v H1 G1, Ex o G G1 H H1 → Φ.p G1 v → D.rt v H1) : tRet te D σ H := h _ q
theorem st_setR (h : Runs o G H (te σ H) Φ) (q : ∀ v H1 G1, Ex o G G1 H H1 → Φ.p G1 v → D.nx (σ.set n (some v)) H1) : tAsg te (gName n) D σ H := h _ q
theorem st_ifR (h : RunsB o G H (tt σ H) B) (h1 : B true → ∀ H1 G1, Ex o G G1 H H1 → s1 D σ H1) (h2 : B false → ∀ H1 G1, Ex o G G1 H H1 → s2 D σ H1) : tIfS tt s1 s2 D σ H := h _ fun a H1 G1 e z => by
  cases a with
  | true => exact iteT (h1 z H1 G1 e)
  | false => exact iteF (h2 z H1 G1 e)
theorem exq {Q : VK} {Φ : Pr} (q : ∀ v H' G', Ex o G G' H H' → Φ.p G' v → Q v H') (e : Ex o G G1 H H1) : ∀ v H' G', Ex o G1 G' H1 H' → Φ.p G' v → Q v H' := fun v H' G' e2 p => q v H' G' (e.trans e2) p
/-- p.append(e), the item read where p is seen -/
theorem st_appendR (l : Loc o G H p acc) (hn : acc.length < 100000) (hv : σ[n]? = some (some (.ref p))) (h : Runs o G H (te σ H) Φ)
    (q : ∀ y H1 G1, Ex o G G1 H H1 → Φ.p G1 y → Fr o G1 (upd H1 p (.lst (acc ++ [y]))) → Loc o G1 (upd H1 p (.lst (acc ++ [y]))) p (acc ++ [y]) → D.nx σ (upd H1 p (.lst (acc ++ [y])))) : tDrop (tBM K "list" rAppend (tVar n) (tCons te tNil)) D σ H :=
  ⟨.ref p, hv, .inl ⟨rfl, acc, .inl (.inl l.at_)⟩, h _ fun y H1 G1 e py => by
    have l1 := l.ex e
    exact ⟨p, acc, y, rfl, rfl, l1.at_, Nat.lt_of_lt_of_le hn (by decide), q y H1 G1 e py (e.fr.wrote l1.out l1.own) l1.put⟩⟩
/-- p[i] = e -/
theorem st_setL {i : Int} {j : Nat} {ti : TE} (l : Loc o G H p acc) (hv : σ[n]? = some (some (.ref p))) (hi : EvD o K ti σ G (.int i)) (hj : ixN acc.length i = some j) (h : Runs o G H (te σ H) Φ)
    (q : ∀ y H1 G1, Ex o G G1 H H1 → Φ.p G1 y → Fr o G1 (upd H1 p (.lst (acc.set j y))) → Loc o G1 (upd H1 p (.lst (acc.set j y))) p (acc.set j y) → D.nx σ (upd H1 p (.lst (acc.set j y)))) : tAsg te (gSub (tVar n) ti rSetL) D σ H :=
  h _ fun y H1 G1 e py => ⟨.ref p, hv, (hi.up e.gg) H1 e.fr _ fun v H2 G2 e2 pv => by
    have l2 := (l.ex e).ex e2
    exact ⟨p, acc, i, j, rfl, dp_int pv, l2.at_, hj, q y H2 G2 (e.trans e2) (Φ.mono e2.gg py) (e2.fr.wrote l2.out l2.own) l2.put⟩⟩
/-- p.pop() -/
theorem run_pop (l : Loc o G H p acc) {xs : List V} {x : V} (e : acc = xs ++ [x]) (hv : σ[n]? = some (some (.ref p))) {Q : VK} (q : Q x (upd H p (.lst xs))) : tBM0 K "list" rPop (tVar n) σ H Q :=
  ⟨.ref p, hv, .inl ⟨rfl, acc, .inl (.inl l.at_)⟩, p, acc, x, rfl, rfl, l.at_, by subst e; simp, by subst e; rw [List.dropLast_concat]; exact q⟩
/-- the list is answered -/
theorem Loc.took (l : Loc o G H p acc) {G0 H0 : Hp} (e : Ex o G0 G H0 H) (h0 : H0 p = none) : Ex o G0 (upd G p (.lst acc)) H0 H := e.took h0 l.out l.own l.at_
/-! ### slices -/
def EvO (o : Ow) (tl : TO) (σ : L2.St) (G : Hp) (b : Option Int) : Prop := ∀ H, Fr o G H → ∀ Q : Option Int → Hp → Prop, (∀ H' G', Ex o G G' H H' → Q b H') → tl σ H Q
theorem EvO.up {tl : TO} {b : Option Int} (h : EvO o tl σ G b) (s : Same G G1) : EvO o tl σ G1 b := fun H f Q q => h H (f.base s) Q fun H' G' e => by
  obtain ⟨G2, e2, s2⟩ := ex_mix f s e
  exact q H' G2 e2
theorem evo_none : EvO o tNoPart σ G none := fun H f Q q => q H G (Ex.refl f)
theorem evo_some {i : Int} (h : EvD o K te σ G (.int i)) : EvO o (tPart te) σ G (some i) := fun H f Q q => h H f _ fun v H1 G1 e p => ⟨i, dp_int p, q H1 G1 e⟩
def cutD {α : Type} (ds : List α) (lo hi : Option Int) : List α := (ds.drop (HT.sIx ds.length 0 lo)).take (HT.sIx ds.length ds.length hi - HT.sIx ds.length 0 lo)
theorem dadrop : ∀ {vs : List V} {ds : List PyData} (n : Nat), DpAll K G vs ds → DpAll K G (vs.drop n) (ds.drop n)
  | _, _, 0, h => h
  | _, _, n + 1, .nil => .nil
  | _, _, n + 1, .cons _ t => dadrop n t
theorem datake : ∀ {vs : List V} {ds : List PyData} (n : Nat), DpAll K G vs ds → DpAll K G (vs.take n) (ds.take n)
  | _, _, 0, h => .nil
  | _, _, n + 1, .nil => .nil
  | _, _, n + 1, .cons a t => .cons a (datake n t)
theorem cut_da {vs : List V} {ds : List PyData} {lo hi : Option Int} (h : DpAll K G vs ds) : DpAll K G (cutV vs lo hi) (cutD ds lo hi) := by
  unfold cutV cutD
  rw [dalen h]
  exact datake _ (dadrop _ h)
theorem cutD_whole {α : Type} {ds : List α} {lo hi : Option Int} (h : HT.sIx ds.length 0 lo = 0 ∧ HT.sIx ds.length ds.length hi = ds.length) : cutD ds lo hi = ds := by
  unfold cutD
  rw [h.1, h.2, List.drop_zero, Nat.sub_zero, List.take_length]
theorem sl_run {r : V → Option Int → Option Int → Hp → VK → Prop} {tl th : TO} {lo hi : Option Int} (h : EvP o te σ G Φ) (h1 : EvO o tl σ G lo) (h2 : EvO o th σ G hi) (hr : ∀ G2 H2 x, Same G G2 → Fr o G2 H2 → Φ.p G2 x → Runs o G2 H2 (r x lo hi H2) Ψ) : EvP o (tSl r te tl th) σ G Ψ := fun H f Q q =>
  h H f _ fun x H1 G1 e1 p1 => (h1.up e1.gg) H1 e1.fr _ fun H2 G2 e2 => (h2.up (e1.gg.trans e2.gg)) H2 e2.fr _ fun H3 G3 e3 => hr G3 H3 x ((e1.gg.trans e2.gg).trans e3.gg) e3.fr (Φ.mono (e2.gg.trans e3.gg) p1) Q fun v H4 G4 e4 p4 => q v H4 G4 (((e1.trans e2).trans e3).trans e4) p4
theorem slT_ {tl th : TO} {lo hi : Option Int} {ds : List PyData} (h : EvD o K te σ G (.tuple ds)) (h1 : EvO o tl σ G lo) (h2 : EvO o th σ G hi) : EvD o K (tSl (rSlA K) te tl th) σ G (.tuple (cutD ds lo hi)) := sl_run h h1 h2 fun G2 H2 x _ f p Q q => by
  obtain ⟨a, xs, rfl, hx, hd⟩ := dp_tup p
  refine ⟨a, xs, rfl, Same.tup f.sub hx, fun w => ?_, fun w y hy => ?_⟩
  · rw [dalen hd] at w
    refine q _ _ _ (Ex.refl f) ?_
    rw [cutD_whole w]
    exact Dp.tup hx hd
  · have e := Ex.made (u := .tup (cutV xs lo hi)) f hy
    exact q _ _ _ e (Dp.tup (.inl (.inl upd_same)) (dasame (cut_da hd) e.gg))
theorem slL_ {tl th : TO} {lo hi : Option Int} {ds : List PyData} (h : EvD o K te σ G (.list ds)) (h1 : EvO o tl σ G lo) (h2 : EvO o th σ G hi) : EvD o K (tSl (rSlL K) te tl th) σ G (.list (cutD ds lo hi)) := sl_run h h1 h2 fun G2 H2 x _ f p Q q => by
  obtain ⟨a, xs, rfl, hx, hd⟩ := dp_lst p
  refine ⟨a, xs, rfl, Same.lst f.sub hx, fun y hy => ?_⟩
  have e := Ex.made (u := .lst (cutV xs lo hi)) f hy
  exact q _ _ _ e (Dp.lst (.inl (.inl upd_same)) (dasame (cut_da hd) e.gg))
theorem slN_ {tl th : TO} {lo hi : Option Int} {ds : List PyData} (h : EvD o K te σ G (.list ds)) (h1 : EvO o tl σ G lo) (h2 : EvO o th σ G hi) : EvP o (tSl (rSlL K) te tl th) σ G (PN K (cutD ds lo hi)) := sl_run h h1 h2 fun G2 H2 x _ f p Q q => by
  obtain ⟨a, xs, rfl, hx, hd⟩ := dp_lst p
  refine ⟨a, xs, rfl, Same.lst f.sub hx, fun y hy => ?_⟩
  have e := Ex.made (u := .lst (cutV xs lo hi)) f hy
  exact q _ _ _ e ⟨y, _, rfl, upd_same, dasame (cut_da hd) e.gg⟩
theorem cutD_take {α : Type} (ds : List α) (n : Nat) : cutD ds none (some (n : Int)) = ds.take n := by
  unfold cutD
  rw [HT.sIx_none, HT.sIx_nat, List.drop_zero, Nat.sub_zero]
  by_cases h : n ≤ ds.length
  · rw [Nat.min_eq_left h]
  · rw [Nat.min_eq_right (by omega), List.take_length, List.take_of_length_le (by omega)]
theorem cutD_drop {α : Type} (ds : List α) (n : Nat) : cutD ds (some (n : Int)) none = ds.drop n := by
  unfold cutD
  rw [HT.sIx_none, HT.sIx_nat]
  by_cases h : n ≤ ds.length
  · rw [Nat.min_eq_left h, List.take_of_length_le (by rw [List.length_drop]; omega)]
  · rw [Nat.min_eq_right (by omega), List.drop_length, List.drop_of_length_le (by omega)]
    simp
theorem cutD_map {α β : Type} (f : α → β) (ds : List α) (lo hi : Option Int) : cutD (ds.map f) lo hi = (cutD ds lo hi).map f := by
  unfold cutD
  rw [List.length_map, List.map_take, List.map_drop]
/-- a list of ours within a loop: from the entry (G, H), what is walked in G1 -/
structure Lp (o : Ow) (G H G1 G' H' : Hp) (p : Addr) (acc : List V) : Prop where
  ex : Ex o G G' H H'
  gg : Same G1 G'
  loc : Loc o G' H' p acc
theorem Lp.step {G' H' : Hp} (l : Lp o G H G1 G' H' p acc) {G2 H2 : Hp} (e : Ex o G' G2 H' H2) : Lp o G H G1 G2 H2 p acc := ⟨l.ex.trans e, l.gg.trans e.gg, l.loc.ex e⟩
theorem Lp.put {G' H' : Hp} (l : Lp o G H G1 G' H' p acc) (hp : H p = none) {acc' : List V} : Lp o G H G1 G' (upd H' p (.lst acc')) p acc' := ⟨l.ex.wrote hp l.loc.out l.loc.own, l.gg, l.loc.put⟩
end
end Fm
set_option maxHeartbeats 4000000
/-! FmK: the layer's rules, the ground named. -/
namespace Fm
open PySem PySem.Spec PyProof.Rows L2
section
variable {X : Cx} {K : PySem.W.Frag} {w : World}
theorem ixT (h : X.K = K) : IxR X (rIxT K) := h ▸ ix_tup
theorem ixL (h : X.K = K) : IxR X (rIxL K) := h ▸ ix_list
theorem kEqD (h : X.K = K) (hu : X.A.units + 64 < cLine) : OpR X (compareOp .Eq) (rEqD K) := h ▸ op_eqD hu
theorem kNeD (h : X.K = K) (hu : X.A.units + 64 < cLine) : OpR X (compareOp .NotEq) (rNeD K) := h ▸ op_neD hu
theorem kIn (h : X.K = K) : OpR X (compareOp .In) (rIn K false) := h ▸ op_in_seq
theorem kNotIn (h : X.K = K) : OpR X (compareOp .NotIn) (rIn K true) := h ▸ op_notIn_seq
theorem kInD (h : X.K = K) (hu : X.A.units + 65 < cLine) : OpR X (compareOp .In) (rInD K) := h ▸ op_inD hu
theorem kNotInD (h : X.K = K) (hu : X.A.units + 65 < cLine) : OpR X (compareOp .NotIn) (rNotInD K) := h ▸ op_notInD hu
theorem kAny (h : X.K = K) (hc : X.calm = true) : CallR X (.builtin "any") (rAny K) := h ▸ cr_any hc
theorem kAll (h : X.K = K) (hc : X.calm = true) : CallR X (.builtin "all") (rAll K) := h ▸ cr_all hc
theorem kSortD (h : X.K = K) (hu : X.A.units + 64 < cLine) : CallR X (.builtin "sorted") (rSortD K) := h ▸ cr_sortD hu
theorem kMaxD (h : X.K = K) (hc : X.calm = true) (hu : X.A.units + 64 < cLine) : CallR X (.builtin "max") (rMaxD K) := h ▸ call_maxD hc hu
theorem kMinD (h : X.K = K) (hc : X.calm = true) (hu : X.A.units + 64 < cLine) : CallR X (.builtin "min") (rMinD K) := h ▸ call_minD hc hu
theorem kRepr (h : X.K = K) (hg : X.A.guards = some []) (hu : X.A.units + 64 < cLine) : CallR X (.builtin "repr") (rRepr K) := h ▸ cr_repr hg hu
theorem kSet (h : X.K = K) (hw : X.w = w) (hc : X.calm = true) (hu : X.A.units + 72 < cLine) : CallR X (.type "set") (rSet K w) := h ▸ hw ▸ cr_set hc hu
theorem kSortS (h : X.K = K) (hw : X.w = w) (hc : X.calm = true) (hu : X.A.units + 64 < cLine) : CallR X (.builtin "sorted") (rSortS K w) := h ▸ hw ▸ cr_sortS hc hu
theorem kLenS (h : X.K = K) (hw : X.w = w) : CallR X (.builtin "len") (Fm.rLenS K w) := h ▸ hw ▸ cr_lenS
theorem kSlL (h : X.K = K) : SlR X (rSlL K) := h ▸ sl_list
theorem kSlA (h : X.K = K) : SlR X (rSlA K) := h ▸ sl_tupA
theorem kIsi (h : X.K = K) : CallR X (.builtin "isinstance") (rIsi K) := h ▸ call_isi
theorem kPgTup {es : List Expr} {k : Nat} {t : TGs} {n : Nat} {pos : Pos} (h0 : X.K = K) (hc : X.calm = true) (h : PGs X es t) (hn : (assignEach es X.env).length = n := by rfl) (hst : (assignEach es X.env).findIdx? (·.1) = none := by rfl) : PG X (.Tuple es k pos) (gTup K n t) := h0 ▸ pg_tup hc h hn hst
theorem kPiL {tg l : Expr} {tl : TE} (h : X.K = K) (hl : PE X l tl) : PI X tg l (iList K tl) := h ▸ pi_list hl
theorem kPiT {tg l : Expr} {tl : TE} (h : X.K = K) (hl : PE X l tl) : PI X tg l (iTup K tl) := h ▸ pi_tup hl
theorem kPiS {tg l : Expr} {tl : TE} (h : X.K = K) (hl : PE X l tl) : PI X tg l (iSeq K tl) := h ▸ pi_seq hl
theorem kFld {e : Expr} {ta : TE} {f : Str} {pos : Pos} (h : X.K = K) (he : PE X e ta) (hb : attributeBase e f X.env (eval e X.env) = eval e X.env) : PE X (.Attribute e f pos) (tFld K ta f) := h ▸ pe_fld he hb
theorem kPsFld {o value : Expr} {ta tv : TE} {f : Str} {pos pos' : Pos} (h : X.K = K) (ha : PE X o ta) (hv : PE X value tv) (hs : swapsWith value (some (.Attribute o f pos')) pos.line X.env = pure false) : PS X (.Assign [.Attribute o f pos'] value pos) (sFld K ta tv f) := h ▸ ps_fld ha hv hs
theorem kBm0 {o : Expr} {to : TE} {name : Str} {apos cpos : Pos} {T id : String} {r : V → List V → Hp → VK → Prop} (h : X.K = K) (pa : PlainAttrs T) (slot : Slot T name id) (hty : typeOf (.builtin id) = pure (.type "method_descriptor")) (hm : MtR X id r) (ho : PE X o to)
    (hbase : attributeBase o name X.env (eval o X.env) = eval o X.env := by rfl) (hline : (apos.endLine == cpos.line) = true := by rfl) : PE X (.Call (.Attribute o name apos) [] [] cpos) (tBM0 K T r to) := h ▸ pe_bm0 pa slot hty hm ho hbase hline
theorem kBm {o e : Expr} {es : List Expr} {to : TE} {t : TA} {name : Str} {apos cpos : Pos} {T id : String} {r : V → List V → Hp → VK → Prop} (h : X.K = K) (pa : PlainAttrs T) (slot : Slot T name id) (hty : typeOf (.builtin id) = pure (.type "method_descriptor")) (hm : MtR X id r) (ho : PE X o to) (ha : PA X (e :: es) t)
    (hbase : attributeBase o name X.env (eval o X.env) = eval o X.env := by rfl)
    (hfew : ((backTo cpos (starEach (e :: es) X.env)).all (fun x => !x.1) && (backToKw cpos (keywordEach [] X.env)).all (fun x => x.1.isSome)
      && decide ((e :: es).length + ([] : List Keyword).length + (if ([] : List Keyword).isEmpty then 0 else 1) < 30)) = true := by rfl)
    (hline : (apos.endLine == cpos.line) = true := by rfl) (hs : starEach (e :: es) X.env = (false, eval e X.env) :: starEach es X.env := by rfl) (hplain : (backTo cpos (starEach es X.env)).any (·.1) = false := by rfl) :
    PE X (.Call (.Attribute o name apos) (e :: es) [] cpos) (tBM K T r to t) := h ▸ pe_bm pa slot hty hm ho ha hbase hfew hline hs hplain
theorem u72 {k : Nat} {A : Around} (r : Room k A) : A.units + 72 < cLine := by have := r.un; omega
theorem u65 {k : Nat} {A : Around} (r : Room k A) : A.units + 65 < cLine := by have := r.un; omega
theorem hu_of {k : Nat} {A : Around} (r : Room k A) : A.units + 1 < cLine := by have := r.un; omega
theorem kGc {x : Str} {pos : Pos} {v : V} (hg : Gl X x) (h : ∃ u, X.mg x = some u ∧ RelV v u) (hd : (x == ("__debug__" : Str)) = false := by decide) : PE X (.Name x pos) (tC v) := by
  obtain ⟨u, hm, r⟩ := h
  exact pe_glob hg hm r hd
end
/-! ### methods -/
/-- a method's def, where it stands -/
structure AtM (K : PySem.W.Frag) (C : Addr) (m q : Str) (st : Stmt) : Prop where
  ex : ∃ (f : Addr) (fd : FuncData), FunD K m q (defArgs st) (defBody st) (defScope st) [] [] f fd ∧ Cls K C ∧ Meth K C m f
structure AtI (K : PySem.W.Frag) (mg : Str → Option Value) (x : Str) (C : Addr) (q : Str) (st : Stmt) : Prop where
  ex : ∃ (f : Addr) (fd : FuncData), FunD K "__init__" q (defArgs st) (defBody st) (defScope st) [] [] f fd ∧ Mk K C f ∧ mg x = some (.ref C)
structure MDef (P : Program) (w : World) (K : PySem.W.Frag) (mg : Str → Option Value) (base : Heap) (k : Nat) (C : Addr) (m : Str) (ps : List Str) (sp : Sp) : Prop where
  ex : ∃ (f : Addr) (fd : FuncData), FnOk P w K mg base CX0 k f fd ps sp ∧ Cls K C ∧ Meth K C m f ∧ Binds K fd ps []
structure IDef (P : Program) (w : World) (K : PySem.W.Frag) (mg : Str → Option Value) (base : Heap) (k : Nat) (x : Str) (C : Addr) (ps : List Str) (sp : Sp) : Prop where
  ex : ∃ (f : Addr) (fd : FuncData), FnOk P w K mg base CX0 k f fd ps sp ∧ Mk K C f ∧ mg x = some (.ref C) ∧ Binds K fd ps []
section
variable {P : Program} {w : World} {K : PySem.W.Frag} {mg : Str → Option Value} {base : Heap}
theorem MDef.mono {j k : Nat} {C : Addr} {m : Str} {ps : List Str} {sp : Sp} (D : MDef P w K mg base j C m ps sp) (h : j ≤ k) : MDef P w K mg base k C m ps sp := by
  obtain ⟨f, fd, a, b⟩ := D.ex
  exact ⟨f, fd, a.mono h, b⟩
theorem IDef.mono {j k : Nat} {x : Str} {C : Addr} {ps : List Str} {sp : Sp} (D : IDef P w K mg base j x C ps sp) (h : j ≤ k) : IDef P w K mg base k x C ps sp := by
  obtain ⟨f, fd, a, b⟩ := D.ex
  exact ⟨f, fd, a.mono h, b⟩
theorem mdef_of {C : Addr} {m qn : Str} {st : Stmt} {N ps : List Str} {k : Nat} {sp : Sp} (A : AtM K C m qn st) (S : FnScope N ps (defScope st))
    (bd : ∀ (kV doc pm : Value) (an : Option Addr) (cdv ct : Value) (us : List Value), us.length = ps.length → bindArgs (PySem.W.fnOf m qn (defArgs st) (defBody st) (defScope st) .none kV doc pm an cdv ct) ⟨us, []⟩ = pure (ps.zip us))
    (len : ∀ vs H Q E, sp vs H Q E → vs.length = ps.length)
    (hbody : ∀ (f : Addr) (cdv : Value) (A : Around) (outer : List Env) (s : Shared) (H : Hp) (vs : List V) (Q : VK) (E : XK), Room k (A.deeper (envOfC qn (defScope st) s.heap.objs.size f cdv)) → sp vs H Q E →
      ∃ t, PSs (cxOf CX0 P w K mg base N qn (defScope st) f cdv A outer s H E).nox (defBody st) t ∧ t { nx := fun _ H' => Q .non H', rt := Q } (start N vs) H) : MDef P w K mg base (k + 1) C m ps sp := by
  obtain ⟨f, fd, F, c, g⟩ := A.ex
  refine ⟨f, fd, F.ok S len fun cdv A outer s H vs Q E hr h => ?_, c, g, F.bindsN bd⟩
  obtain ⟨t, h1, h2⟩ := hbody f cdv A outer s H vs Q E hr h
  exact ⟨t, PSs.nox h1, h2⟩
theorem idef_of {x : Str} {C : Addr} {qn : Str} {st : Stmt} {N ps : List Str} {k : Nat} {sp : Sp} (A : AtI K mg x C qn st) (S : FnScope N ps (defScope st))
    (bd : ∀ (kV doc pm : Value) (an : Option Addr) (cdv ct : Value) (us : List Value), us.length = ps.length → bindArgs (PySem.W.fnOf "__init__" qn (defArgs st) (defBody st) (defScope st) .none kV doc pm an cdv ct) ⟨us, []⟩ = pure (ps.zip us))
    (len : ∀ vs H Q E, sp vs H Q E → vs.length = ps.length)
    (hbody : ∀ (f : Addr) (cdv : Value) (A : Around) (outer : List Env) (s : Shared) (H : Hp) (vs : List V) (Q : VK) (E : XK), Room k (A.deeper (envOfC qn (defScope st) s.heap.objs.size f cdv)) → sp vs H Q E →
      ∃ t, PSs (cxOf CX0 P w K mg base N qn (defScope st) f cdv A outer s H E).nox (defBody st) t ∧ t { nx := fun _ H' => Q .non H', rt := Q } (start N vs) H) : IDef P w K mg base (k + 1) x C ps sp := by
  obtain ⟨f, fd, F, c, g⟩ := A.ex
  refine ⟨f, fd, F.ok S len fun cdv A outer s H vs Q E hr h => ?_, c, g, F.bindsN bd⟩
  obtain ⟨t, h1, h2⟩ := hbody f cdv A outer s H vs Q E hr h
  exact ⟨t, PSs.nox h1, h2⟩
end
section
variable {X : Cx} {k k' : Nat} {C : Addr} {x m : Str} {ps : List Str} {sp : Sp} {p pos apos : Pos} {e o : Expr} {es : List Expr} {ta : TE} {t : TA}
theorem kMeth {pl : Sem Bool} (D : MDef X.prog X.w X.K X.mg X.base k C m ps sp) (hr : Room k' X.A) (hk : k ≤ k') (he : PE X o ta) (ha : PA X (e :: es) t)
    (hst : starEach (e :: es) X.env = (false, eval e X.env) :: starEach es X.env := by rfl) (hpl : (backTo pos (starEach es X.env)).any (·.1) = false := by rfl)
    (ht : eval (.Call (.Attribute o m apos) (e :: es) [] pos) X.env = (do
      let ov ← eval o X.env
      standAt apos.atName
      let (f, first) ← holding [ov] (getMethod ov m pl)
      callWith pos f first (backTo pos (starEach (e :: es) X.env)) (backToKw pos (keywordEach [] X.env))) := by rfl) :
    PE X (.Call (.Attribute o m apos) (e :: es) [] pos) (tMeth C m sp [] E0 ta t) := by
  obtain ⟨f, fd, F, c, g, b⟩ := D.ex
  exact pe_meth (pl := pl) he c g F (hr.mono hk) b .nil pass0 ha hst hpl ht
theorem kMeth0 {pl : Sem Bool} (D : MDef X.prog X.w X.K X.mg X.base k C m ps sp) (hr : Room k' X.A) (hk : k ≤ k') (he : PE X o ta)
    (ht : eval (.Call (.Attribute o m apos) [] [] pos) X.env = (do
      let ov ← eval o X.env
      standAt apos.atName
      let (f, first) ← holding [ov] (getMethod ov m pl)
      callWith pos f first (backTo pos (starEach [] X.env)) (backToKw pos (keywordEach [] X.env))) := by rfl) :
    PE X (.Call (.Attribute o m apos) [] [] pos) (tMeth C m sp [] E0 ta tNil) := by
  obtain ⟨f, fd, F, c, g, b⟩ := D.ex
  exact pe_meth0 (pl := pl) he c g F (hr.mono hk) b .nil pass0 ht
theorem kMake (D : IDef X.prog X.w X.K X.mg X.base k x C ps sp) (hr : Room k' X.A) (hk : k + 1 ≤ k') (hg : Gl X x) (ha : PA X (e :: es) t)
    (hdb : (x == ("__debug__" : Str)) = false := by decide) (he : starEach (e :: es) X.env = (false, eval e X.env) :: starEach es X.env := by rfl) (hpl : (backTo pos (starEach es X.env)).any (·.1) = false := by rfl) :
    PE X (.Call (.Name x p) (e :: es) [] pos) (tMake C sp [] E0 t) := by
  obtain ⟨f, fd, F, M, hm, b⟩ := D.ex
  exact pe_make M F (hr.mono hk) hg hm b .nil pass0 ha hdb he hpl
end
end Fm
set_option maxHeartbeats 4000000
/-! FmC6: readings of texts and numbers. -/
namespace Fm
open PySem PySem.Spec PyProof.Rows L2
/-- the module's constants -/
structure Cs (K : PySem.W.Frag) (mg : Str → Option Value) : Prop where
  LETTERS : ∃ u, mg "LETTERS" = some u ∧ RelV (.str "abcdefghijklmnopqrstuvwxyz") u
  FIGURES : ∃ u, mg "FIGURES" = some u ∧ RelV (.str "0123456789") u
  MOST_LETTERS : ∃ u, mg "MOST_LETTERS" = some u ∧ RelV (.int 8) u
  MOST_FIGURES : ∃ u, mg "MOST_FIGURES" = some u ∧ RelV (.int 60) u
  MOST_ROWS : ∃ u, mg "MOST_ROWS" = some u ∧ RelV (.int 3) u
  OTHER_WORDS : ∃ a, (∃ u, mg "OTHER_WORDS" = some u ∧ RelV (.ref a) u) ∧ ∀ H, Dp K H (.ref a) (.tuple ((["any", "none", "blank", "new", "on"] : List Str).map .str))
  ANY : ∃ a, (∃ u, mg "ANY" = some u ∧ RelV (.ref a) u) ∧ ∀ H, Dp K H (.ref a) (.tuple [.bool true, .tuple [], .tuple [], .tuple []])
section
variable {o : Ow} {K : PySem.W.Frag} {σ : L2.St} {G : Hp} {ta tb te : TE} {d e r : PyData} {x y : Str} {i j : Int} {ds es : List PyData}
theorem dec_str {x y : Str} : decide (V.str x = V.str y) = decide (x = y) := by
  by_cases h : x = y
  · subst h; simp
  · simp [h]
theorem dec_intV {x y : Int} : decide (V.int x = V.int y) = decide (x = y) := by
  by_cases h : x = y
  · subst h; simp
  · simp [h]
theorem eqS_ (h1 : EvD o K ta σ G (.str x)) (h2 : EvD o K tb σ G (.str y)) (q : PyData.bool (decide (x = y)) = r) : EvD o K (tOp rEq ta tb) σ G r := q ▸ ev_op h1 h2 fun G2 H2 u v _ f p1 p2 Q k => by
  rw [dp_str p1, dp_str p2]
  exact ⟨rfl, k _ H2 G2 (Ex.refl f) (by rw [dec_str]; exact Dp.bl _)⟩
theorem neS_ (h1 : EvD o K ta σ G (.str x)) (h2 : EvD o K tb σ G (.str y)) (q : PyData.bool (!decide (x = y)) = r) : EvD o K (tOp rNe ta tb) σ G r := q ▸ ev_op h1 h2 fun G2 H2 u v _ f p1 p2 Q k => by
  rw [dp_str p1, dp_str p2]
  exact ⟨rfl, k _ H2 G2 (Ex.refl f) (by rw [dec_str]; exact Dp.bl _)⟩
theorem eqI_ (h1 : EvD o K ta σ G (.int i)) (h2 : EvD o K tb σ G (.int j)) (q : PyData.bool (decide (i = j)) = r) : EvD o K (tOp rEq ta tb) σ G r := q ▸ ev_op h1 h2 fun G2 H2 u v _ f p1 p2 Q k => by
  rw [dp_int p1, dp_int p2]
  exact ⟨rfl, k _ H2 G2 (Ex.refl f) (by rw [dec_intV]; exact Dp.bl _)⟩
theorem neI_ (h1 : EvD o K ta σ G (.int i)) (h2 : EvD o K tb σ G (.int j)) (q : PyData.bool (!decide (i = j)) = r) : EvD o K (tOp rNe ta tb) σ G r := q ▸ ev_op h1 h2 fun G2 H2 u v _ f p1 p2 Q k => by
  rw [dp_int p1, dp_int p2]
  exact ⟨rfl, k _ H2 G2 (Ex.refl f) (by rw [dec_intV]; exact Dp.bl _)⟩
/-! texts -/
abbrev rLenTx : List V → Hp → VK → Prop := fun xs H Q => ∃ z, xs = [.str z] ∧ z.length ≤ sizeLine ∧ Q (.int z.length) H
theorem lenS_ (h1 : EvD o K ta σ G (.str x)) (hl : x.length ≤ 16777216) (q : PyData.int x.length = r) : EvD o K (tCB rLenTx (tCons ta tNil)) σ G r := q ▸ ev_cb (eva_cons h1 eva_nil) fun G2 H2 xs _ f p Q k => by
  obtain ⟨v, rfl, p1⟩ := allp1 p
  rw [dp_str p1]
  exact ⟨x, rfl, by rw [sizeLine_eq]; exact hl, k _ H2 G2 (Ex.refl f) (Dp.int _)⟩
abbrev rInTx : R2 := fun x y H Q => ∃ (c : Nat) (z : Str), x = .str ⟨#[c]⟩ ∧ y = .str z ∧ Q (.bl (decide (c ∈ z.cps.toList))) H
abbrev rNotInTx : R2 := fun x y H Q => ∃ (c : Nat) (z : Str), x = .str ⟨#[c]⟩ ∧ y = .str z ∧ Q (.bl (!decide (c ∈ z.cps.toList))) H
theorem inTx_ {c : Nat} (h1 : EvD o K ta σ G (.str ⟨#[c]⟩)) (h2 : EvD o K tb σ G (.str y)) (q : PyData.bool (decide (c ∈ y.cps.toList)) = r) : EvD o K (tOp rInTx ta tb) σ G r := q ▸ ev_op h1 h2 fun G2 H2 u v _ f p1 p2 Q k =>
  ⟨c, y, dp_str p1, dp_str p2, k _ H2 G2 (Ex.refl f) (Dp.bl _)⟩
theorem notInTx_ {c : Nat} (h1 : EvD o K ta σ G (.str ⟨#[c]⟩)) (h2 : EvD o K tb σ G (.str y)) (q : PyData.bool (!decide (c ∈ y.cps.toList)) = r) : EvD o K (tOp rNotInTx ta tb) σ G r := q ▸ ev_op h1 h2 fun G2 H2 u v _ f p1 p2 Q k =>
  ⟨c, y, dp_str p1, dp_str p2, k _ H2 G2 (Ex.refl f) (Dp.bl _)⟩
abbrev rAddTx : R2 := fun x y H Q => ∃ i j, x = .str i ∧ y = .str j ∧ i.length + j.length ≤ sizeLine ∧ Q (.str (i ++ j)) H
theorem addS_ (h1 : EvD o K ta σ G (.str x)) (h2 : EvD o K tb σ G (.str y)) (hl : x.length + y.length ≤ 16777216) (q : PyData.str (x ++ y) = r) : EvD o K (tOp rAddTx ta tb) σ G r := q ▸ ev_op h1 h2 fun G2 H2 u v _ f p1 p2 Q k =>
  ⟨x, y, dp_str p1, dp_str p2, by rw [sizeLine_eq]; exact hl, k _ H2 G2 (Ex.refl f) (Dp.str _)⟩
theorem ixS_ {c : Nat} (h1 : EvD o K ta σ G (.str x)) (h2 : EvD o K tb σ G (.int i)) (hl : x.length ≤ 16777216) (hc : atI x.cps.toList i = some c) : EvD o K (tOp rIxS ta tb) σ G (.str ⟨#[c]⟩) := ev_op h1 h2 fun G2 H2 u v _ f p1 p2 Q k =>
  ⟨x, i, c, dp_str p1, dp_int p2, by rw [sizeLine_eq]; exact hl, hc, k _ H2 G2 (Ex.refl f) (Dp.str _)⟩
theorem slS_ {tl th : TO} {lo hi : Option Int} (h : EvD o K te σ G (.str x)) (hl : x.length ≤ 16777216) (h1 : EvO o tl σ G lo) (h2 : EvO o th σ G hi) (q : PyData.str (cutS x lo hi) = r) : EvD o K (tSl rSlS te tl th) σ G r := q ▸ sl_run h h1 h2 fun G2 H2 u _ f p Q q =>
  ⟨x, dp_str p, by rw [sizeLine_eq]; exact hl, q _ H2 G2 (Ex.refl f) (Dp.str _)⟩
theorem m1_ {r1 : V → List V → Hp → VK → Prop} {Ψ : Pr} (h1 : EvD o K ta σ G (.str x)) (h2 : EvP o tb σ G Ψ) {Φ : Pr} (hr : ∀ G2 H2 v, Same G G2 → Fr o G2 H2 → Ψ.p G2 v → Runs o G2 H2 (r1 (.str x) [v] H2) Φ) : EvP o (tM1 r1 ta tb) σ G Φ := fun H f Q q =>
  h1 H f _ fun u H1 G1 e1 p1 => ⟨⟨x, dp_str p1⟩, (h2.up e1.gg) H1 e1.fr _ fun v H2 G2 e2 p2 => by
    rw [dp_str p1]
    exact hr G2 H2 v (e1.gg.trans e2.gg) e2.fr p2 Q fun v3 H3 G3 e3 p3 => q v3 H3 G3 ((e1.trans e2).trans e3) p3⟩
abbrev rStartsTx : V → List V → Hp → VK → Prop := fun x xs H Q => ∃ a b, x = .str a ∧ xs = [.str b] ∧ Q (.bl (Txt.startswith a b)) H
abbrev rEndsTx : V → List V → Hp → VK → Prop := fun x xs H Q => ∃ a b, x = .str a ∧ xs = [.str b] ∧ Q (.bl (Txt.endswith a b)) H
theorem starts_ (h1 : EvD o K ta σ G (.str x)) (h2 : EvD o K tb σ G (.str y)) (q : PyData.bool (Txt.startswith x y) = r) : EvD o K (tM1 rStartsTx ta tb) σ G r := q ▸ m1_ h1 h2 fun G2 H2 v _ f p Q k =>
  ⟨x, y, rfl, by rw [dp_str p], k _ H2 G2 (Ex.refl f) (Dp.bl _)⟩
theorem ends_ (h1 : EvD o K ta σ G (.str x)) (h2 : EvD o K tb σ G (.str y)) (q : PyData.bool (Txt.endswith x y) = r) : EvD o K (tM1 rEndsTx ta tb) σ G r := q ▸ m1_ h1 h2 fun G2 H2 v _ f p Q k =>
  ⟨x, y, rfl, by rw [dp_str p], k _ H2 G2 (Ex.refl f) (Dp.bl _)⟩
abbrev rPartTx : V → List V → Hp → VK → Prop := fun x xs H Q => ∃ a b, x = .str a ∧ xs = [.str b] ∧ (b.length == 0) = false ∧ a.length ≤ sizeLine ∧
      ∀ p, H p = none → Q (.ref p) (upd H p (.tup [.str (Txt.partition a b).1, .str (Txt.partition a b).2.1, .str (Txt.partition a b).2.2]))
theorem part_ {u v w : Str} (h1 : EvD o K ta σ G (.str x)) (h2 : EvD o K tb σ G (.str y)) (hy : (y.length == 0) = false) (hl : x.length ≤ 16777216) (q : Txt.partition x y = (u, v, w)) : EvD o K (tM1 rPartTx ta tb) σ G (.tuple [.str u, .str v, .str w]) := m1_ h1 h2 fun G2 H2 z _ f p Q k =>
  ⟨x, y, rfl, by rw [dp_str p], hy, by rw [sizeLine_eq]; exact hl, fun p hp => by
    rw [q]
    have e := Ex.made (u := .tup [.str u, .str v, .str w]) f hp
    exact k _ _ _ e (Dp.tup (.inl (.inl upd_same)) (.cons (.str _) (.cons (.str _) (.cons (.str _) .nil))))⟩
abbrev rSplitTx : V → List V → Hp → VK → Prop := fun x xs H Q => ∃ a b, x = .str a ∧ xs = [.str b] ∧ (b.length == 0) = false ∧ a.length + 2 ≤ sizeLine ∧ rNewStrs (Txt.split a b) H Q
theorem split_ {ps : List Str} (h1 : EvD o K ta σ G (.str x)) (h2 : EvD o K tb σ G (.str y)) (hy : (y.length == 0) = false) (hl : x.length + 2 ≤ 16777216) (q : Txt.split x y = ps) : EvD o K (tM1 rSplitTx ta tb) σ G (.list (ps.map .str)) := m1_ h1 h2 fun G2 H2 v _ f p Q k =>
  ⟨x, y, rfl, by rw [dp_str p], hy, by rw [sizeLine_eq]; exact hl, fun p hp => by
    rw [q]
    have e := Ex.made (u := .lst (ps.map .str)) f hp
    exact k _ _ _ e (Dp.lst (.inl (.inl upd_same)) (dpall_of_strs ps))⟩
abbrev rJoinTx (K : PySem.W.Frag) : V → List V → Hp → VK → Prop := fun x xs H Q => ∃ a p, ∃ ys : List Str, x = .str a ∧ xs = [.ref p] ∧ (SqL K H p (ys.map V.str) ∨ SqT K H p (ys.map V.str)) ∧
      (ys.map (·.length)).sum + ys.length * a.length ≤ 16777216 ∧ Q (.str (Txt.join a ys)) H
theorem join_ {ps : List Str} (h1 : EvD o K ta σ G (.str x)) (h2 : EvD o K tb σ G (.list (ps.map .str))) (hl : (ps.map (·.length)).sum + ps.length * x.length ≤ 16777216) (q : PyData.str (Str.join x ps) = r) : EvD o K (tM1 (rJoinTx K) ta tb) σ G r := q ▸ m1_ h1 h2 fun G2 H2 v _ f p Q k => by
  obtain ⟨a, ys, rfl, g1, g2⟩ := dp_lst p
  have e2 := dpall_strs g2
  subst e2
  refine ⟨x, a, ps, rfl, rfl, .inl (Same.lst f.sub g1), hl, k _ H2 G2 (Ex.refl f) ?_⟩
  rw [show Txt.join x ps = Str.join x ps from StrLaws.glued_eq_join x ps]
  exact Dp.str _
abbrev rIntTx : List V → Hp → VK → Prop := fun xs H Q => ∃ a n, xs = [.str a] ∧ PySem.intText? a = some n ∧ a.length ≤ 640 ∧ Q (.int n) H
theorem intTx_ (h1 : EvD o K ta σ G (.str x)) (hx : PySem.intText? x = some i) (hl : x.length ≤ 640) : EvD o K (tCB rIntTx (tCons ta tNil)) σ G (.int i) := ev_cb (eva_cons h1 eva_nil) fun G2 H2 xs _ f p Q k => by
  obtain ⟨v, rfl, p1⟩ := allp1 p
  exact ⟨x, i, by rw [dp_str p1], hx, hl, k _ H2 G2 (Ex.refl f) (Dp.int _)⟩
abbrev rStrI : List V → Hp → VK → Prop := fun xs H Q => ∃ i, xs = [.int i] ∧ i.natAbs.log2 < 1920 ∧ Q (.str (toString i)) H
theorem strI_ (h1 : EvD o K ta σ G (.int i)) (hi : i.natAbs.log2 < 1920) : EvD o K (tCB rStrI (tCons ta tNil)) σ G (.str (toString i)) := ev_cb (eva_cons h1 eva_nil) fun G2 H2 xs _ f p Q k => by
  obtain ⟨v, rfl, p1⟩ := allp1 p
  exact ⟨i, by rw [dp_int p1], hi, k _ H2 G2 (Ex.refl f) (Dp.str _)⟩
theorem isiStr_ (h1 : EvD o K ta σ G (.str x)) : EvD o K (tCB (rIsi K) (tCons ta (tCons (tC (.ty "str")) tNil))) σ G (.bool true) := ev_cb (Φs := [PD K (.str x), PV (.ty "str")]) (eva_cons h1 (eva_cons (ev_c rfl) eva_nil)) fun G2 H2 xs _ f p Q k => by
  obtain ⟨v, u, rfl, p1, p2⟩ := allp2 p
  refine ⟨v, u, .type "str", .type "str", true, rfl, by rw [show u = .ty "str" from p2]; exact .ty _, by rw [dp_str p1]; exact .base (.str _), rfl, k _ H2 G2 (Ex.refl f) (Dp.bl _)⟩
/-! lists -/
theorem catN_ (h1 : EvP o ta σ G (PN K ds)) (h2 : EvP o tb σ G (PN K es)) (hl : ds.length + es.length ≤ 16777216) : EvP o (tOp rCat ta tb) σ G (PN K (ds ++ es)) := ev_op h1 h2 fun G2 H2 u v _ f ⟨a, xs, e1, a1, a2⟩ ⟨b, ys, e2, b1, b2⟩ Q k => by
  subst e1
  subst e2
  refine ⟨a, b, xs, ys, rfl, rfl, f.sub a _ a1, f.sub b _ b1, by rw [sizeLine_eq, dalen a2, dalen b2]; exact hl, fun p hp => ?_⟩
  have e := Ex.made (u := .lst (xs ++ ys)) f hp
  exact k _ _ _ e ⟨p, _, rfl, upd_same, dasame (daapp a2 b2) e.gg⟩
theorem kRevL {X : Cx} {K : PySem.W.Frag} {e : Expr} {te : TE} {k : Nat} {p1 p2 p3 pos : Pos} (h : X.K = K) (he : PE X e te) : PE X (.Subscript e (.Slice none none (some (.UnaryOp .USub (.Constant (.int 1) k p1) p2)) p3) pos) (tRevL K te) := h ▸ pe_revL he
theorem revN_ (h : EvD o K te σ G (.list ds)) : EvP o (tRevL K te) σ G (PN K ds.reverse) := fun H f Q q => h H f _ fun v H1 G1 e p => by
  obtain ⟨a, xs, rfl, hx, hd⟩ := dp_lst p
  refine ⟨a, xs, rfl, Same.lst e.fr.sub hx, fun y hy => ?_⟩
  have e2 := Ex.made (u := .lst xs.reverse) e.fr hy
  exact q _ _ _ (e.trans e2) ⟨y, _, rfl, upd_same, dasame (darev hd) e2.gg⟩
theorem EvP.nd (h : EvP o te σ G (PN K ds)) : EvD o K te σ G (.list ds) := h.imp fun _ _ _ p => pn_d p
end
end Fm
set_option maxHeartbeats 4000000
/-! FmA: ends of spans, spans. -/
namespace Fm
open PySem PySem.Spec PyProof.Rows L2
/-! ### the data -/
def endD : Option Int → PyData
  | none => .tuple []
  | some n => .tuple [.int n]
theorem endD_shaped (a : Option Int) : SeqAt.shaped (endD a) = true := by
  cases a with
  | none => decide +kernel
  | some n => rfl
theorem unit_shaped : SeqAt.shaped (.tuple []) = true := by decide +kernel
theorem endD_unit (a : Option Int) : PyData.eqv (endD a) (.tuple []) = a.isNone := by
  cases a with
  | none => rfl
  | some n => rfl
/-! the evaluator of plain readings -/
local macro_rules | `(tactic| walk_at "shape") => `(tactic| first | exact unit_shaped | exact endD_shaped _ | assumption | rfl | decide +kernel)
local macro_rules | `(tactic| walk_at "ev") => `(tactic| repeat' (first
  | ((with_reducible show EvP _ (tC (V.int _)) _ _ _); exact evd_int)
  | ((with_reducible show EvP _ (tC (V.str _)) _ _ _); exact evd_str)
  | ((with_reducible show EvP _ (tC (V.bl _)) _ _ _); exact evd_bl)
  | ((with_reducible show EvP _ (tC V.non) _ _ _); exact evd_non)
  | ((with_reducible show EvP _ (tVar _) _ _ _); apply var_)
  | ((with_reducible show EvP _ (tTup _) _ _ _); apply evd_tup)
  | ((with_reducible show EvP _ (tLst _) _ _ _); apply evd_lst)
  | ((with_reducible show EvA _ tNil _ _ _); first | exact evda_nil | exact eva_nil)
  | ((with_reducible show EvA _ (tCons _ _) _ _ _); first | apply evda_cons | apply eva_cons)
  | ((with_reducible show EvP _ (tOp (rIxT _) _ _) _ _ _); apply evd_ixT)
  | ((with_reducible show EvP _ (tOp (rIxL _) _ _) _ _ _); apply evd_ixL)
  | ((with_reducible show EvP _ (tOp (rEqD _) _ _) _ _ _); apply eqD_)
  | ((with_reducible show EvP _ (tOp (rNeD _) _ _) _ _ _); apply neD_)
  | ((with_reducible show EvP _ (tOp (rI0 _) _ _) _ _ _); first | apply intI_ | apply intB_)
  | ((with_reducible show EvP _ (tUn (rU _) _) _ _ _); apply neg_)
  | ((with_reducible show EvP _ (tNotV _) _ _ _); apply not_)
  | ((with_reducible show EvB _ (tTest _) _ _ _); apply evt_test)
  | ((with_reducible show EvB _ (tB _) _ _ _); apply evt_B)
  | ((with_reducible show EvB _ tYes _ _ _); exact evt_yes)
  | ((with_reducible show EvB _ (tNot _) _ _ _); apply tnot_)
  | ((with_reducible show SeqAt.shaped _ = true); walk_at "shape")
  | ((with_reducible show List.length _ ≤ 100000); first | decide | (simp; done))
  | ((with_reducible show Pr.p _ _ _); assumption)
  | ((with_reducible show Dp _ _ _ _); assumption)
  | ((with_reducible show _ = _); exact rfl)))
local macro_rules | `(tactic| walk_at "nx") => `(tactic| try dsimp only [tSeq, tNext])

def hasNum (l h : Option Int) : Bool := match l, h with
  | some l, some h => decide (l ≤ h)
  | _, _ => true
def goesOn (h l : Option Int) : Bool := match h, l with
  | some h, some l => decide (l ≤ h + 1)
  | _, _ => true
def maxE (a b : Option Int) : Option Int := match a, b with
  | none, b => b
  | some a, none => some a
  | some a, some b => some (if a < b then b else a)
def lowH (a b : Option Int) : Option Int := match a, b with
  | none, b => b
  | some a, none => some a
  | some a, some b => some (if b < a then b else a)
def topH (a b : Option Int) : Option Int := match a, b with
  | some a, some b => some (if a < b then b else a)
  | _, _ => none
def numOf (a b : Option Int) : Int := match a, b with
  | some a, _ => a
  | none, some b => b
  | none, none => 0
theorem endD_alike (a b : Option Int) : PySem.W.alike (endD a) (endD b) = true := by
  cases a <;> cases b <;> simp [endD, PySem.W.alike, PySem.W.alikeAll]
theorem endD_lt (a b : Option Int) : PySem.W.dataLt (endD a) (endD b) = (match a, b with | none, some _ => true | some a, some b => decide (a < b) | _, none => false) := by
  cases a with
  | none =>
    cases b with
    | none => rfl
    | some b => simp [endD, PySem.W.dataLt, PySem.W.keyToks, PySem.W.keyToksAll, lex_cons, itemLt]; first | done | rfl
  | some a =>
    cases b with
    | none => simp [endD, PySem.W.dataLt, PySem.W.keyToks, PySem.W.keyToksAll, lex_cons, itemLt]; first | done | rfl
    | some b =>
      show PySem.W.dataLt (.tuple [.int a]) (.tuple [.int b]) = _
      rw [PySem.W.dataLt_tuple, PySem.W.dataLt_cons (by simp [PySem.W.alike])]
      by_cases h : a = b
      · subst h
        simp [PyData.eqv, PyProof.Rows.lex_irrefl]
      · rw [if_neg (by simp [PyData.eqv, h]), PySem.W.dataLt_int]
theorem endD_cmp (a b : Option Int) : Cmp2 (endD a) (endD b) := by
  refine ⟨⟨fun x hx y hy => ?_, fun x hx => ?_⟩, ?_⟩
  · simp only [List.mem_cons, List.not_mem_nil, or_false] at hx hy
    rcases hx with rfl | rfl <;> rcases hy with rfl | rfl <;> exact endD_alike _ _
  · simp only [List.mem_cons, List.not_mem_nil, or_false] at hx
    rcases hx with rfl | rfl
    · cases a <;> exact fun e => nomatch e
    · cases b <;> exact fun e => nomatch e
  · cases a <;> cases b <;> simp [endD, PyData.depthAll, PyData.depth]
theorem maxE_eq (a b : Option Int) : (if PySem.W.dataLt (endD a) (endD b) = true then endD b else endD a) = endD (maxE a b) := by
  rw [endD_lt]
  cases a with
  | none => cases b <;> rfl
  | some a =>
    cases b with
    | none => rfl
    | some b =>
      by_cases h : a < b <;> simp [maxE, h]
theorem lowH_eq (a b : Int) : (if PySem.W.dataLt (endD (some b)) (endD (some a)) = true then endD (some b) else endD (some a)) = endD (lowH (some a) (some b)) := by
  rw [endD_lt]
  by_cases h : b < a <;> simp [lowH, h]
def R_has_numbers : List PyData → PyData → Prop := fun ds d => ∃ a b, ds = [endD a, endD b] ∧ d = .bool (hasNum a b)
def R_greater_low : List PyData → PyData → Prop := fun ds d => ∃ a b, ds = [endD a, endD b] ∧ d = endD (maxE a b)
def R_lesser_high : List PyData → PyData → Prop := fun ds d => ∃ a b, ds = [endD a, endD b] ∧ d = endD (lowH a b)
def R_greater_high : List PyData → PyData → Prop := fun ds d => ∃ a b, ds = [endD a, endD b] ∧ d = endD (topH a b)
def R_goes_on : List PyData → PyData → Prop := fun ds d => ∃ a b, ds = [endD a, endD b] ∧ d = .bool (goesOn a b)
def R_number_of : List PyData → PyData → Prop := fun ds d => ∃ a b, ds = [endD a, endD b] ∧ d = .int (numOf a b)
section
variable {P : Program} {w : World} {K : PySem.W.Frag} {mg : Str → Option Value} {base : Heap}
theorem ok_has_numbers (A : At K mg "has_numbers" s_has_numbers) : Def P w K mg base 1 "has_numbers" ["low", "high"] (FnR K 2 R_has_numbers) := by
  refine def_of A sc_has_numbers (fun _ _ _ _ _ _ us hl => match us, hl with | [_, _], _ => rfl) (fun vs H Q E h => h.len) fun f cdv A outer s H vs Q E hr h => ?_
  obtain ⟨ds, d, G, hn, ⟨a, b, rfl, rfl⟩, fr, hv, q⟩ := h.open
  obtain ⟨x, y, rfl, hx, hy⟩ := dpall2 hv
  refine ⟨_, (pss_one (ps_ret (pe_or (pe_cmpR (kEqD (K := K) rfl hr.units) (pv 0) (pe_tup pa_nil) (nomark _)) (pe_or (pe_cmpR (kEqD (K := K) rfl hr.units) (pv 1) (pe_tup pa_nil) (nomark _)) (pe_one (pe_cmpR op_le (pe_ix (ixT (K := K) rfl) (pv 0) pe_int (fun _ _ => rfl)) (pe_ix (ixT (K := K) rfl) (pv 1) pe_int (fun _ _ => rfl)) (nomark _))))))), ?_⟩
  walk_at "nx"
  refine st_ret fr ?_ q
  cases a with
  | none => refine evd_or_t ?_; walk_at "ev"
  | some l =>
    refine evd_or_f (by walk_at "ev") ?_
    cases b with
    | none => refine evd_or_t ?_; walk_at "ev"
    | some h => refine evd_or_f (by walk_at "ev") (by walk_at "ev")
theorem ok_goes_on (A : At K mg "goes_on" s_goes_on) : Def P w K mg base 1 "goes_on" ["high", "low"] (FnR K 2 R_goes_on) := by
  refine def_of A sc_goes_on (fun _ _ _ _ _ _ us hl => match us, hl with | [_, _], _ => rfl) (fun vs H Q E h => h.len) fun f cdv A outer s H vs Q E hr h => ?_
  obtain ⟨ds, d, G, hn, ⟨a, b, rfl, rfl⟩, fr, hv, q⟩ := h.open
  obtain ⟨x, y, rfl, hx, hy⟩ := dpall2 hv
  refine ⟨_, (pss_one (ps_ret (pe_or (pe_cmpR (kEqD (K := K) rfl hr.units) (pv 0) (pe_tup pa_nil) (nomark _)) (pe_or (pe_cmpR (kEqD (K := K) rfl hr.units) (pv 1) (pe_tup pa_nil) (nomark _)) (pe_one (pe_cmpR op_le (pe_ix (ixT (K := K) rfl) (pv 1) pe_int (fun _ _ => rfl)) (pe_op op_add (pe_ix (ixT (K := K) rfl) (pv 0) pe_int (fun _ _ => rfl)) pe_int) (nomark _))))))), ?_⟩
  walk_at "nx"
  refine st_ret fr ?_ q
  cases a with
  | none => refine evd_or_t ?_; walk_at "ev"
  | some l =>
    refine evd_or_f (by walk_at "ev") ?_
    cases b with
    | none => refine evd_or_t ?_; walk_at "ev"
    | some h => refine evd_or_f (by walk_at "ev") (by walk_at "ev")
theorem ok_greater_low (Z : Zs mg) (A : At K mg "greater_low" s_greater_low) : Def P w K mg base 1 "greater_low" ["one", "other"] (FnR K 2 R_greater_low) := by
  refine def_of A sc_greater_low (fun _ _ _ _ _ _ us hl => match us, hl with | [_, _], _ => rfl) (fun vs H Q E h => h.len) fun f cdv A outer s H vs Q E hr h => ?_
  obtain ⟨ds, d, G, hn, ⟨a, b, rfl, rfl⟩, fr, hv, q⟩ := h.open
  obtain ⟨x, y, rfl, hx, hy⟩ := dpall2 hv
  refine ⟨_, (pss_one (ps_ret (pe_callB (kMaxD (K := K) rfl rfl hr.units) (by rfl) Z.max bt_max (pa_cons (pv 0) (pa_cons (pv 1) pa_nil))))), ?_⟩
  walk_at "nx"
  exact st_ret fr (maxD_ (by walk_at "ev") (by walk_at "ev") (endD_cmp _ _) (maxE_eq _ _)) q
theorem ok_lesser_high (Z : Zs mg) (A : At K mg "lesser_high" s_lesser_high) : Def P w K mg base 1 "lesser_high" ["one", "other"] (FnR K 2 R_lesser_high) := by
  refine def_of A sc_lesser_high (fun _ _ _ _ _ _ us hl => match us, hl with | [_, _], _ => rfl) (fun vs H Q E h => h.len) fun f cdv A outer s H vs Q E hr h => ?_
  obtain ⟨ds, d, G, hn, ⟨a, b, rfl, rfl⟩, fr, hv, q⟩ := h.open
  obtain ⟨x, y, rfl, hx, hy⟩ := dpall2 hv
  refine ⟨_, (pss_cons (ps_if (PW.pt (pw_or (pt_cmpR (kEqD (K := K) rfl hr.units) (pv 0) (pe_tup pa_nil) (nomark _)) (pw_or1 (pt_cmpR (kEqD (K := K) rfl hr.units) (pv 1) (pe_tup pa_nil) (nomark _))))) (pss_one (ps_ret (pe_callB (kMaxD (K := K) rfl rfl hr.units) (by rfl) Z.max bt_max (pa_cons (pv 0) (pa_cons (pv 1) pa_nil))))) pss_nil)
    (pss_one (ps_ret (pe_callB (kMinD (K := K) rfl rfl hr.units) (by rfl) Z.min bt_min (pa_cons (pv 0) (pa_cons (pv 1) pa_nil)))))), ?_⟩
  walk_at "nx"
  cases a with
  | none =>
    refine st_yes fr (evt_or_t (by walk_at "ev")) fun H1 G1 e => ?_
    walk_at "nx"
    replace hx := dsame hx e.gg
    replace hy := dsame hy e.gg
    exact st_ret e.fr (maxD_ (by walk_at "ev") (by walk_at "ev") (endD_cmp _ _) (maxE_eq _ _)) (exq q e)
  | some a =>
    cases b with
    | none =>
      refine st_yes fr (evt_or_f (by walk_at "ev") (by walk_at "ev")) fun H1 G1 e => ?_
      walk_at "nx"
      replace hx := dsame hx e.gg
      replace hy := dsame hy e.gg
      exact st_ret e.fr (maxD_ (by walk_at "ev") (by walk_at "ev") (endD_cmp _ _) (maxE_eq _ _)) (exq q e)
    | some b =>
      refine st_no fr (evt_or_f (by walk_at "ev") (by walk_at "ev")) fun H1 G1 e => ?_
      walk_at "nx"
      replace hx := dsame hx e.gg
      replace hy := dsame hy e.gg
      exact st_ret e.fr (minD_ (by walk_at "ev") (by walk_at "ev") (endD_cmp _ _) (lowH_eq _ _)) (exq q e)
theorem ok_greater_high (Z : Zs mg) (A : At K mg "greater_high" s_greater_high) : Def P w K mg base 1 "greater_high" ["one", "other"] (FnR K 2 R_greater_high) := by
  refine def_of A sc_greater_high (fun _ _ _ _ _ _ us hl => match us, hl with | [_, _], _ => rfl) (fun vs H Q E h => h.len) fun f cdv A outer s H vs Q E hr h => ?_
  obtain ⟨ds, d, G, hn, ⟨a, b, rfl, rfl⟩, fr, hv, q⟩ := h.open
  obtain ⟨x, y, rfl, hx, hy⟩ := dpall2 hv
  refine ⟨_, (pss_cons (ps_if (PW.pt (pw_or (pt_cmpR (kEqD (K := K) rfl hr.units) (pv 0) (pe_tup pa_nil) (nomark _)) (pw_or1 (pt_cmpR (kEqD (K := K) rfl hr.units) (pv 1) (pe_tup pa_nil) (nomark _))))) (pss_one (ps_ret (pe_tup pa_nil))) pss_nil)
    (pss_one (ps_ret (pe_callB (kMaxD (K := K) rfl rfl hr.units) (by rfl) Z.max bt_max (pa_cons (pv 0) (pa_cons (pv 1) pa_nil)))))), ?_⟩
  walk_at "nx"
  cases a with
  | none =>
    refine st_yes fr (evt_or_t (by walk_at "ev")) fun H1 G1 e => ?_
    walk_at "nx"
    exact st_ret e.fr (by walk_at "ev") (exq q e)
  | some a =>
    cases b with
    | none =>
      refine st_yes fr (evt_or_f (by walk_at "ev") (by walk_at "ev")) fun H1 G1 e => ?_
      walk_at "nx"
      exact st_ret e.fr (by walk_at "ev") (exq q e)
    | some b =>
      refine st_no fr (evt_or_f (by walk_at "ev") (by walk_at "ev")) fun H1 G1 e => ?_
      walk_at "nx"
      replace hx := dsame hx e.gg
      replace hy := dsame hy e.gg
      exact st_ret e.fr (maxD_ (by walk_at "ev") (by walk_at "ev") (endD_cmp _ _) (maxE_eq _ _)) (exq q e)
theorem ok_number_of (A : At K mg "number_of" s_number_of) : Def P w K mg base 1 "number_of" ["low", "high"] (FnR K 2 R_number_of) := by
  refine def_of A sc_number_of (fun _ _ _ _ _ _ us hl => match us, hl with | [_, _], _ => rfl) (fun vs H Q E h => h.len) fun f cdv A outer s H vs Q E hr h => ?_
  obtain ⟨ds, d, G, hn, ⟨a, b, rfl, rfl⟩, fr, hv, q⟩ := h.open
  obtain ⟨x, y, rfl, hx, hy⟩ := dpall2 hv
  refine ⟨_, (pss_cons (ps_if (pt_cmpR (kNeD (K := K) rfl hr.units) (pv 0) (pe_tup pa_nil) (nomark _)) (pss_one (ps_ret (pe_ix (ixT (K := K) rfl) (pv 0) pe_int (fun _ _ => rfl)))) pss_nil)
    (pss_cons (ps_if (pt_cmpR (kNeD (K := K) rfl hr.units) (pv 1) (pe_tup pa_nil) (nomark _)) (pss_one (ps_ret (pe_ix (ixT (K := K) rfl) (pv 1) pe_int (fun _ _ => rfl)))) pss_nil)
    (pss_one (ps_ret pe_int)))), ?_⟩
  walk_at "nx"
  cases a with
  | some a =>
    refine st_yes fr (by walk_at "ev") fun H1 G1 e => ?_
    walk_at "nx"
    replace hx := dsame hx e.gg
    exact st_ret e.fr (by walk_at "ev") (exq q e)
  | none =>
    refine st_no fr (by walk_at "ev") fun H1 G1 e => ?_
    walk_at "nx"
    replace hx := dsame hx e.gg
    replace hy := dsame hy e.gg
    replace q := exq q e
    cases b with
    | some b =>
      refine st_yes e.fr (by walk_at "ev") fun H2 G2 e => ?_
      walk_at "nx"
      replace hy := dsame hy e.gg
      exact st_ret e.fr (by walk_at "ev") (exq q e)
    | none =>
      refine st_no e.fr (by walk_at "ev") fun H2 G2 e => ?_
      walk_at "nx"
      exact st_ret e.fr (by walk_at "ev") (exq q e)
end
end Fm
set_option maxHeartbeats 4000000
/-! FmB: spans formed, met, apart. -/
namespace Fm
open PySem PySem.Spec PyProof.Rows L2
/-! the evaluator of plain readings -/
local macro_rules | `(tactic| walk_at "shape") => `(tactic| first | exact unit_shaped | exact endD_shaped _ | assumption | rfl | decide +kernel)
local macro_rules | `(tactic| walk_at "ev") => `(tactic| repeat' (first
  | ((with_reducible show EvP _ (tC (V.int _)) _ _ _); exact evd_int)
  | ((with_reducible show EvP _ (tC (V.str _)) _ _ _); exact evd_str)
  | ((with_reducible show EvP _ (tC (V.bl _)) _ _ _); exact evd_bl)
  | ((with_reducible show EvP _ (tC V.non) _ _ _); exact evd_non)
  | ((with_reducible show EvP _ (tVar _) _ _ _); apply var_)
  | ((with_reducible show EvP _ (tTup _) _ _ _); apply evd_tup)
  | ((with_reducible show EvP _ (tLst _) _ _ _); apply evd_lst)
  | ((with_reducible show EvA _ tNil _ _ _); first | exact evda_nil | exact eva_nil)
  | ((with_reducible show EvA _ (tCons _ _) _ _ _); first | apply evda_cons | apply eva_cons)
  | ((with_reducible show EvP _ (tOp (rIxT _) _ _) _ _ _); apply evd_ixT)
  | ((with_reducible show EvP _ (tOp (rIxL _) _ _) _ _ _); apply evd_ixL)
  | ((with_reducible show EvP _ (tOp (rEqD _) _ _) _ _ _); apply eqD_)
  | ((with_reducible show EvP _ (tOp (rNeD _) _ _) _ _ _); apply neD_)
  | ((with_reducible show EvP _ (tOp (rI0 _) _ _) _ _ _); first | apply intI_ | apply intB_)
  | ((with_reducible show EvP _ (tUn (rU _) _) _ _ _); apply neg_)
  | ((with_reducible show EvP _ (tNotV _) _ _ _); apply not_)
  | ((with_reducible show EvB _ (tTest _) _ _ _); apply evt_test)
  | ((with_reducible show EvB _ (tB _) _ _ _); apply evt_B)
  | ((with_reducible show EvB _ tYes _ _ _); exact evt_yes)
  | ((with_reducible show EvB _ (tNot _) _ _ _); apply tnot_)
  | ((with_reducible show SeqAt.shaped _ = true); walk_at "shape")
  | ((with_reducible show List.length _ ≤ 100000); first | decide | (simp; done))
  | ((with_reducible show Pr.p _ _ _); assumption)
  | ((with_reducible show Dp _ _ _ _); assumption)
  | ((with_reducible show _ = _); exact rfl)))
local macro_rules | `(tactic| walk_at "nx") => `(tactic| try dsimp only [tSeq, tNext])

abbrev Span := Option Int × Option Int
def spanD (s : Span) : PyData := .tuple [endD s.1, endD s.2]
theorem spanD_hash (s : Span) : hashd (spanD s) = true := by
  rcases s with ⟨a, b⟩
  cases a <;> cases b <;> rfl
theorem endD_hash (s : Option Int) : hashd (endD s) = true := by cases s <;> rfl
/-- the spans in Python's order -/
def spanLe (a b : Span) : Bool := PySem.W.dataLe false spanD a b
def srtS (ss : List Span) : List Span := ss.mergeSort spanLe
theorem srtS_data (ss : List Span) : srt (ss.map spanD) = (srtS ss).map spanD := by
  unfold srt srtS
  exact (PySem.W.sort_maps (r := spanLe) (s := PySem.W.dataLe false id) (l := ss) spanD fun _ _ _ _ => rfl).symm
theorem spanD_alike (a b : Span) : PySem.W.alike (spanD a) (spanD b) = true := by
  show (PySem.W.alike (endD a.1) (endD b.1) && (PySem.W.alike (endD a.2) (endD b.2) && true)) = true
  rw [endD_alike, endD_alike] <;> rfl
theorem spanD_depth (s : Span) : (spanD s).depth ≤ 2 := by
  rcases s with ⟨a, b⟩
  cases a <;> cases b <;> simp [spanD, endD, PyData.depth, PyData.depthAll]
theorem srtb_spans {ss : List Span} (h : ss.length ≤ 100000) : Srtb (ss.map spanD) where
  al := PySem.W.AllAlike.of spanD_alike
  so := PySem.W.Sortable.tuples fun b => ⟨_, _, rfl⟩
  few := by rw [List.length_map]; exact h
  dp := fun d hd => by
    obtain ⟨s, _, rfl⟩ := List.mem_map.mp hd
    have := spanD_depth s
    omega
/-- one span more -/
def stepM (found : List Span) (s : Span) : List Span := match found.getLast? with
  | none => [s]
  | some l => if goesOn l.2 s.1 = true then found.dropLast ++ [(l.1, topH l.2 s.2)] else found ++ [s]
def mergeS (ss : List Span) : List Span := ss.foldl stepM []
theorem mergeS_snoc (ss : List Span) (s : Span) : mergeS (ss ++ [s]) = stepM (mergeS ss) s := by
  unfold mergeS
  rw [List.foldl_append] <;> rfl
theorem mergeS_take {L : List Span} {i : Nat} {s : Span} (h : L[i]? = some s) : mergeS (L.take (i + 1)) = stepM (mergeS (L.take i)) s := by
  rw [take_next h, mergeS_snoc]
theorem stepM_len (F : List Span) (s : Span) : (stepM F s).length ≤ F.length + 1 := by
  unfold stepM
  split
  · simp
  · split
    · simp
    · simp
theorem mergeS_len : ∀ (n : Nat) (L : List Span), L.length = n → (mergeS L).length ≤ n
  | 0, L, h => by rw [List.eq_nil_of_length_eq_zero h]; exact Nat.le_refl _
  | n + 1, L, h => by
    obtain ⟨L', s, rfl⟩ : ∃ L' s, L = L' ++ [s] := by
      rcases List.eq_nil_or_concat L with e | ⟨L', s, e⟩
      · subst e; cases h
      · exact ⟨L', s, by rw [e, List.concat_eq_append]⟩
    rw [mergeS_snoc]
    have a := stepM_len (mergeS L') s
    rw [List.length_append, List.length_singleton] at h
    have b := mergeS_len n L' (by omega)
    omega
theorem nz_end (a : Option Int) : Nz 1 (endD a) := by
  cases a with
  | none => exact ⟨rfl, by simp [endD, PyData.depth, PyData.depthAll]⟩
  | some n => exact nz_tup fun d hd => by rw [List.mem_singleton.mp hd]; exact nz_int
theorem nz_span (s : Span) : Nz 2 (spanD s) := nz_tup fun d hd => by
  rcases List.mem_cons.mp hd with e | hd
  · rw [e]; exact nz_end _
  · rw [List.mem_singleton.mp hd]; exact nz_end _
theorem nz_spans (ss : List Span) : Nz 3 (.list (ss.map spanD)) := nz_list fun d hd => by
  obtain ⟨s, _, rfl⟩ := List.mem_map.mp hd
  exact nz_span s
def formedS (ss : List Span) : List Span := mergeS (srtS (ss.filter fun s => hasNum s.1 s.2))
def S_spans_formed (K : PySem.W.Frag) : Ow → List Pr → Pr → Prop := fun o Φs Ψ => o = .no ∧ ∃ ss : List Span, ss.length ≤ 10000 ∧ Φs = [PSq K (ss.map spanD)] ∧ Ψ = PD K (.tuple ((formedS ss).map spanD))
theorem it_pair {o : Ow} {K : PySem.W.Frag} {wi : TI} {σ : L2.St} {G : Hp} {ss : List Span} (h : ItOk o wi σ G (ss.map fun s => PD K (spanD s))) : ItOk o wi σ G (ss.map fun s => PTu K [PD K (endD s.1), PD K (endD s.2)]) :=
  h.of fun s _ G v p => pt_data.mpr p
section
variable {P : Program} {w : World} {K : PySem.W.Frag} {mg : Str → Option Value} {base : Heap}
theorem ok_spans_formed (Z : Zs mg) (D_has_numbers : Def P w K mg base 1 "has_numbers" ["low", "high"] (FnR K 2 R_has_numbers)) (D_goes_on : Def P w K mg base 1 "goes_on" ["high", "low"] (FnR K 2 R_goes_on)) (D_greater_high : Def P w K mg base 1 "greater_high" ["one", "other"] (FnR K 2 R_greater_high))
    (A : At K mg "spans_formed" s_spans_formed) : Def P w K mg base 2 "spans_formed" ["spans"] (Fn (S_spans_formed K)) := by
  refine def_of A sc_spans_formed (fun _ _ _ _ _ _ us hl => match us, hl with | [_], _ => rfl) (fun vs H Q E h => Fn.len (fun o Φs Ψ ⟨_, ss, _, h3, _⟩ => by rw [h3] <;> rfl) h) fun f cdv A outer s H vs Q E hr h => ?_
  obtain ⟨_, _, _, G, ⟨rfl, ss, hlen, rfl, rfl⟩, fr, hv, q⟩ := h
  obtain ⟨x, rfl, hx⟩ := allp1 hv
  refine ⟨_, (pss_cons (ps_set (i := 1) sc_spans_formed.nd rfl (.inl rfl) (pe_lst pa_nil))
    (pss_cons (ps_for PassesOwn.never rfl (kPiL (K := K) rfl (pe_callB (kSortD (K := K) rfl hr.units) (by rfl) Z.sorted bt_sorted (pa_cons (pe_lc (own := [("span", 4)]) (g := gName 4) rfl sc_spans_formed.nd (kPiS (K := K) rfl (pv 0)) (blkOk_by (N := n_spans_formed) (sc := (defScope s_spans_formed)) (by decide +kernel)) (fun _ _ _ _ _ => (pg_name (i := 4) sc_spans_formed.nd rfl (.inl rfl))) (fun _ _ _ _ _ => (pts_one (pt_val (pe_def D_has_numbers hr (by omega) (by rfl) (pa_cons (pe_ix (ixT (K := K) rfl) (pv 4) pe_int (fun _ _ => rfl)) (pa_cons (pe_ix (ixT (K := K) rfl) (pv 4) pe_int (fun _ _ => rfl)) pa_nil)))))) (fun _ _ _ _ _ => (pe_callTy (crTup (K := K) rfl) (by rfl) Z.tuple bt_tuple (pa_cons (pv 4) pa_nil)))) pa_nil))) (kPgTup (K := K) (n := 2) rfl rfl (pgs_cons (pg_name (i := 2) sc_spans_formed.nd rfl (.inl rfl)) (pgs_cons (pg_name (i := 3) sc_spans_formed.nd rfl (.inl rfl)) pgs_nil))) (pss_one (ps_if (PW.pt (pw_and (pt_cmpR (kNeD (K := K) rfl hr.units) (pv 1) (pe_lst pa_nil) (nomark _)) (pw_and1 (pt_val (pe_def D_goes_on hr (by omega) (by rfl) (pa_cons (pe_ix (ixT (K := K) rfl) (pe_ix (ixL (K := K) rfl) (pv 1) (pe_un un_neg pe_int) (fun _ _ => rfl)) pe_int (fun _ _ => rfl)) (pa_cons (pv 2) pa_nil))))))) (pss_one (ps_asg (pe_tup (pa_cons (pe_ix (ixT (K := K) rfl) (pe_ix (ixL (K := K) rfl) (pv 1) (pe_un un_neg pe_int) (fun _ _ => rfl)) pe_int (fun _ _ => rfl)) (pa_cons (pe_def D_greater_high hr (by omega) (by rfl) (pa_cons (pe_ix (ixT (K := K) rfl) (pe_ix (ixL (K := K) rfl) (pv 1) (pe_un un_neg pe_int) (fun _ _ => rfl)) pe_int (fun _ _ => rfl)) (pa_cons (pv 3) pa_nil))) pa_nil))) (pg_sub (pv 1) (pe_un un_neg pe_int) set_list))) (pss_one (ps_expr (kBm (K := K) rfl PySem.F.plainAttrs_list PySem.F.slot_list_append PySem.F.type_list_append mt_append (pv 1) (pa_cons (pe_tup (pa_cons (pv 2) (pa_cons (pv 3) pa_nil))) pa_nil)))))))
    (pss_one (ps_ret (pe_callTy (crTup (K := K) rfl) (by rfl) Z.tuple bt_tuple (pa_cons (pv 1) pa_nil)))))), ?_⟩
  walk_at "nx"
  -- found = []
  refine st_new fr fun p hp e0 => ?_
  have l0 : Loc .no G (upd H p (.lst [])) p [] := Loc.new fr hp
  walk_at "nx"
  generalize hL : srtS (ss.filter fun s => hasNum s.1 s.2) = L
  have hfl : (ss.filter fun s => hasNum s.1 s.2).length ≤ 10000 := Nat.le_trans (List.length_filter_le _ _) hlen
  have hLl : L.length ≤ 10000 := by rw [← hL]; exact Nat.le_trans (Nat.le_of_eq (List.length_mergeSort _)) hfl
  -- for low, high in sorted(..)
  refine for_ e0.fr (ito_listF (bs := L) (enc := spanD) ?it) fun G1 H1 e1 => ?_
  case it =>
    refine sortD_ ?_ (srtb_spans (ss := ss.filter fun s => hasNum s.1 s.2) (by omega)) (by rw [srtS_data, hL])
    refine lcf1 (bs := ss) (Θ := fun s => PD K (spanD s)) (p := fun s => hasNum s.1 s.2) (f := spanD) (by decide) (ito_seqF (var_ (by rfl) hx)) (by omega) fun b hb y G1 s1 hy => ⟨?_, fun _ => ?_⟩
    · refine evt_B (evd_call (ds := [endD b.1, endD b.2]) (eva_cons (evd_ixT (ds := [endD b.1, endD b.2]) (var_ (by rfl) hy) evd_int (by rfl)) (eva_cons (evd_ixT (ds := [endD b.1, endD b.2]) (var_ (by rfl) hy) evd_int (by rfl)) eva_nil)) (by rfl) ⟨_, _, rfl, rfl⟩)
    · exact tupTD_ (var_ (by rfl) hy)
  have l1 := l0.ex e1
  refine ⟨fun i σ G' H' => (∃ acc, Lp .no G H G1 G' H' p acc ∧ DpAll K G' acc ((mergeS (L.take i)).map spanD)) ∧ ∃ a b, σ = [some x, some (.ref p), a, b, none], ⟨⟨[], ⟨e0.trans e1, Same.refl _, l1⟩, .nil⟩, _, _, rfl⟩, fun i σ G H ⟨⟨_, h, _⟩, _⟩ => ⟨h.gg, h.ex.fr.sub⟩, ?_, ?_⟩
  · rintro i φ y σ G2 H2 hi hy ⟨⟨acc, l2, ha⟩, a, b, rfl⟩
    rw [List.getElem?_map] at hi
    obtain ⟨s, hs, rfl⟩ := Option.map_eq_some_iff.mp hi
    refine g_pair hy l2.ex.fr.sub fun lo hi hlo hhi => ?_
    have hF := mergeS_take hs
    have hFl : (mergeS (L.take i)).length ≤ 10000 := Nat.le_trans (mergeS_len _ _ rfl) (Nat.le_trans (by rw [List.length_take]; omega) hLl)
    generalize mergeS (L.take i) = F at ha hF hFl
    have hacc : acc.length = F.length := by rw [dalen ha, List.length_map]
    have sn : Same G2 (upd G2 p (.lst acc)) := Same.new l2.loc.out
    have hf : Dp K (upd G2 p (.lst acc)) (.ref p) (.list (F.map spanD)) := .lst (.inl (.inl upd_same)) (dasame ha sn)
    have hlo' := dsame hlo sn
    have hhi' := dsame hhi sn
    refine st_ifR (B := fun c => c = (match F.getLast? with | none => false | some l => goesOn l.2 s.1)) (EvB.seen ?_ l2.loc l2.ex.fr) (fun tb H3 G3 e3 => ?_) (fun tb H3 G3 e3 => ?_)
    · rcases List.eq_nil_or_concat F with rfl | ⟨F', l, rfl⟩
      · refine evt_and_f (evt_test (neD_ (var_ (by rfl) hf) (evd_lst (ds := []) eva_nil (by decide)) (by decide) (by decide) ?_))
        rw [eqv_nil] <;> rfl
      · rw [List.concat_eq_append] at *
        rw [List.getLast?_concat]
        refine evt_and_t (evt_test (neD_ (var_ (by rfl) hf) (evd_lst (ds := []) eva_nil (by decide)) ((nz_spans _).shaped (by decide)) (by decide) ?_)) ?_
        · rw [eqv_nil]; simp
        · refine evt_B (evd_call (ds := [endD l.2, endD s.1]) (eva_cons (evd_ixT (ds := [endD l.1, endD l.2]) (evd_ixL (var_ (by rfl) hf) (neg_ evd_int rfl) ?_) evd_int (by rfl)) (eva_cons (var_ (by rfl) hlo') eva_nil)) (by rfl) ⟨_, _, rfl, rfl⟩)
          rw [List.map_append]
          exact at_last
    · rcases List.eq_nil_or_concat F with rfl | ⟨F', l, rfl⟩
      · cases tb
      · rw [List.concat_eq_append] at *
        rw [List.getLast?_concat] at tb
        have l3 := l2.step e3
        have sn3 : Same G3 (upd G3 p (.lst acc)) := Same.new l3.loc.out
        have ha3 := dasame ha e3.gg
        have hf3 : Dp K (upd G3 p (.lst acc)) (.ref p) (.list ((F' ++ [l]).map spanD)) := .lst (.inl (.inl upd_same)) (dasame ha3 sn3)
        have hhi3 := dsame (dsame hhi e3.gg) sn3
        have hl : atI ((F' ++ [l]).map spanD) (-1) = some (spanD l) := by rw [List.map_append]; exact at_last
        refine st_setL (K := K) (Φ := PD K (spanD (l.1, topH l.2 s.2))) (i := -1) (j := F'.length) l3.loc (by rfl) (neg_ evd_int rfl) ?_ (EvP.seenD ?_ (spanD_hash _) l3.loc l3.ex.fr) fun y H4 G4 e4 py fr4 l4 => ?_
        · rw [hacc, List.length_append, List.length_singleton]
          unfold ixN
          rw [if_neg (by decide), if_pos (by omega)]
          congr 1
          omega
        · refine evd_tup (ds := [endD l.1, endD (topH l.2 s.2)]) (eva_cons (evd_ixT (ds := [endD l.1, endD l.2]) (evd_ixL (var_ (by rfl) hf3) (neg_ evd_int rfl) hl) evd_int (by rfl)) (eva_cons ?_ eva_nil)) (by simp)
          exact evd_call (ds := [endD l.2, endD s.2]) (eva_cons (evd_ixT (ds := [endD l.1, endD l.2]) (evd_ixL (var_ (by rfl) hf3) (neg_ evd_int rfl) hl) evd_int (by rfl)) (eva_cons (var_ (by rfl) hhi3) eva_nil)) (by rfl) ⟨_, _, rfl, rfl⟩
        · refine ⟨G4, ⟨_, (l3.step e4).put hp, ?_⟩, _, _, rfl⟩
          have e5 : mergeS (L.take (i + 1)) = F' ++ [(l.1, topH l.2 s.2)] := by
            rw [hF]
            unfold stepM
            rw [List.getLast?_concat]
            dsimp only
            rw [if_pos tb.symm, List.dropLast_concat]
          rw [e5, List.map_append]
          have ha4 := dasame ha3 e4.gg
          rw [List.map_append] at ha4
          obtain ⟨us, v, rfl, hu, hv4⟩ := dasplit ha4
          have hul : us.length = F'.length := by rw [dalen hu, List.length_map]
          rw [← hul, List.set_append_right _ _ (Nat.le_refl _), Nat.sub_self]
          exact daapp hu (daone py)
    · have hst : stepM F s = F ++ [s] := by
        unfold stepM
        split
        · rename_i h
          rw [List.getLast?_eq_none_iff.mp h] <;> rfl
        · rename_i l h
          rw [h] at tb
          dsimp only at tb
          rw [if_neg (by rw [← tb]; decide)]
      refine st_append (Φ := PD K (spanD s)) e3.fr (l2.step e3).loc (by omega) (by rfl) (evd_tup (ds := [endD s.1, endD s.2]) (eva_cons (var_ (by rfl) (dsame hlo e3.gg)) (eva_cons (var_ (by rfl) (dsame hhi e3.gg)) eva_nil)) (by simp)) fun y H4 G4 e4 py fr4 l4 => ?_
      refine ⟨G4, ⟨_, ((l2.step e3).step e4).put hp, ?_⟩, _, _, rfl⟩
      rw [hF, hst, List.map_append]
      exact daapp (dasame ha (e3.trans e4).gg) (daone py)
  · rintro σ G2 H2 ⟨⟨acc, l2, ha⟩, a, b, rfl⟩
    rw [List.length_map, List.take_length] at ha
    have e5 := l2.loc.took l2.ex hp
    refine st_ret e5.fr (tupLD_ (var_ (by rfl) (Dp.lst (.inl (.inl upd_same)) (dasame ha (Same.new l2.loc.out))))) (exq ?_ e5)
    unfold formedS at q
    rw [hL] at q
    exact q
def metS (one other : List Span) : List Span := one.flatMap fun s => other.map fun t => (maxE s.1 t.1, lowH s.2 t.2)
theorem metS_len (ss : List Span) {ts : List Span} (h : ts.length ≤ 90) : (metS ss ts).length ≤ ss.length * 90 := by
  unfold metS
  induction ss with
  | nil => exact Nat.le_refl _
  | cons z l ih =>
    rw [List.flatMap_cons, List.length_append, List.length_map, List.length_cons]
    omega
def S_spans_met (K : PySem.W.Frag) : Ow → List Pr → Pr → Prop := fun o Φs Ψ => o = .no ∧ ∃ ss ts : List Span, ss.length ≤ 90 ∧ ts.length ≤ 90 ∧ Φs = [PD K (.tuple (ss.map spanD)), PD K (.list (ts.map spanD))] ∧ Ψ = PD K (.tuple ((formedS (metS ss ts)).map spanD))
theorem ok_spans_met (Z : Zs mg) (D_greater_low : Def P w K mg base 1 "greater_low" ["one", "other"] (FnR K 2 R_greater_low)) (D_lesser_high : Def P w K mg base 1 "lesser_high" ["one", "other"] (FnR K 2 R_lesser_high)) (D_spans_formed : Def P w K mg base 2 "spans_formed" ["spans"] (Fn (S_spans_formed K)))
    (A : At K mg "spans_met" s_spans_met) : Def P w K mg base 3 "spans_met" ["one", "other"] (Fn (S_spans_met K)) := by
  refine def_of A sc_spans_met (fun _ _ _ _ _ _ us hl => match us, hl with | [_, _], _ => rfl) (fun vs H Q E h => Fn.len (fun o Φs Ψ ⟨_, ss, _, _, _, h3, _⟩ => by rw [h3] <;> rfl) h) fun f cdv A outer s H vs Q E hr h => ?_
  obtain ⟨_, _, _, G, ⟨rfl, ss, ts, hs1, hs2, rfl, rfl⟩, fr, hv, q⟩ := h
  obtain ⟨x, y, rfl, hx, hy⟩ := allp2 hv
  refine ⟨_, (pss_cons (ps_set (i := 2) sc_spans_met.nd rfl (.inl rfl) (pe_lst pa_nil))
    (pss_cons (ps_for PassesOwn.never rfl (kPiT (K := K) rfl (pv 0)) (kPgTup (K := K) (n := 2) rfl rfl (pgs_cons (pg_name (i := 3) sc_spans_met.nd rfl (.inl rfl)) (pgs_cons (pg_name (i := 4) sc_spans_met.nd rfl (.inl rfl)) pgs_nil))) (pss_one (ps_for PassesOwn.never rfl (kPiL (K := K) rfl (pv 1)) (kPgTup (K := K) (n := 2) rfl rfl (pgs_cons (pg_name (i := 5) sc_spans_met.nd rfl (.inl rfl)) (pgs_cons (pg_name (i := 6) sc_spans_met.nd rfl (.inl rfl)) pgs_nil))) (pss_one (ps_expr (kBm (K := K) rfl PySem.F.plainAttrs_list PySem.F.slot_list_append PySem.F.type_list_append mt_append (pv 2) (pa_cons (pe_tup (pa_cons (pe_def D_greater_low hr (by omega) (by rfl) (pa_cons (pv 3) (pa_cons (pv 5) pa_nil))) (pa_cons (pe_def D_lesser_high hr (by omega) (by rfl) (pa_cons (pv 4) (pa_cons (pv 6) pa_nil))) pa_nil))) pa_nil)))))))
    (pss_one (ps_ret (pe_def D_spans_formed hr (by omega) (by rfl) (pa_cons (pv 2) pa_nil)))))), ?_⟩
  refine st_new fr fun p hp e0 => ?_
  have l0 : Loc .no G (upd H p (.lst [])) p [] := Loc.new fr hp
  walk_at "nx"
  refine for_ e0.fr (ito_tupF (bs := ss) (enc := spanD) (var_ (by rfl) hx)) fun G1 H1 e1 => ?_
  refine ⟨fun i σ G' H' => (∃ acc, Lp .no G H G1 G' H' p acc ∧ DpAll K G' acc ((metS (ss.take i) ts).map spanD)) ∧ ∃ a b c d, σ = [some x, some y, some (.ref p), a, b, c, d], ⟨⟨[], ⟨e0.trans e1, Same.refl _, l0.ex e1⟩, .nil⟩, _, _, _, _, rfl⟩, fun i σ G H ⟨⟨_, h, _⟩, _⟩ => ⟨h.gg, h.ex.fr.sub⟩, ?_, ?_⟩
  · rintro i φ v σ G2 H2 hi hv2 ⟨⟨acc, l2, ha⟩, a, b, c, d, rfl⟩
    rw [List.getElem?_map] at hi
    obtain ⟨s, hs, rfl⟩ := Option.map_eq_some_iff.mp hi
    refine g_pair hv2 l2.ex.fr.sub fun lo hi hlo hhi => ?_
    walk_at "nx"
    have hF : metS (ss.take (i + 1)) ts = metS (ss.take i) ts ++ ts.map fun t => (maxE s.1 t.1, lowH s.2 t.2) := by
      rw [take_next hs]
      unfold metS
      rw [List.flatMap_append, List.flatMap_singleton]
    have hFl : (metS (ss.take i) ts).length ≤ 8100 := by
      have := metS_len (ss.take i) hs2
      have h2 : (ss.take i).length ≤ 90 := by rw [List.length_take]; omega
      omega
    generalize metS (ss.take i) ts = F at ha hF hFl
    refine for_ l2.ex.fr (ito_listF (bs := ts) (enc := spanD) (var_ (by rfl) (dsame hy l2.ex.gg))) fun G3 H3 e3 => ?_
    refine ⟨fun j σ G' H' => (∃ acc, Lp .no G H G3 G' H' p acc ∧ DpAll K G' acc ((F ++ (ts.take j).map fun t => (maxE s.1 t.1, lowH s.2 t.2)).map spanD)) ∧ ∃ c d, σ = [some x, some y, some (.ref p), some lo, some hi, c, d], ⟨⟨acc, ⟨l2.ex.trans e3, Same.refl _, l2.loc.ex e3⟩, ?_⟩, _, _, rfl⟩, fun i σ G H ⟨⟨_, h, _⟩, _⟩ => ⟨h.gg, h.ex.fr.sub⟩, ?_, ?_⟩
    · rw [List.take_zero, List.map_nil, List.append_nil]
      exact dasame ha e3.gg
    · rintro j φ v2 σ G4 H4 hj hv4 ⟨⟨acc4, l4, ha4⟩, c, d, rfl⟩
      rw [List.getElem?_map] at hj
      obtain ⟨t, ht, rfl⟩ := Option.map_eq_some_iff.mp hj
      refine g_pair hv4 l4.ex.fr.sub fun lo4 hi4 hlo4 hhi4 => ?_
      have g34 := e3.gg.trans l4.gg
      refine st_append (Φ := PD K (spanD (maxE s.1 t.1, lowH s.2 t.2))) l4.ex.fr l4.loc ?_ (by rfl) (evd_tup (ds := [endD (maxE s.1 t.1), endD (lowH s.2 t.2)]) (eva_cons ?_ (eva_cons ?_ eva_nil)) (by simp)) fun z H5 G5 e5 pz fr5 l5 => ?_
      · rw [dalen ha4, List.length_map, List.length_append, List.length_map, List.length_take]
        omega
      · exact evd_call (ds := [endD s.1, endD t.1]) (eva_cons (var_ (by rfl) (dsame hlo g34)) (eva_cons (var_ (by rfl) hlo4) eva_nil)) (by rfl) ⟨_, _, rfl, rfl⟩
      · exact evd_call (ds := [endD s.2, endD t.2]) (eva_cons (var_ (by rfl) (dsame hhi g34)) (eva_cons (var_ (by rfl) hhi4) eva_nil)) (by rfl) ⟨_, _, rfl, rfl⟩
      · refine ⟨G5, ⟨_, (l4.step e5).put hp, ?_⟩, _, _, rfl⟩
        have e : F ++ (ts.take (j + 1)).map (fun t => (maxE s.1 t.1, lowH s.2 t.2)) = (F ++ (ts.take j).map fun t => (maxE s.1 t.1, lowH s.2 t.2)) ++ [(maxE s.1 t.1, lowH s.2 t.2)] := by
          rw [take_next ht, List.map_append, List.append_assoc] <;> rfl
        rw [e, List.map_append]
        exact daapp (dasame ha4 e5.gg) (daone pz)
    · rintro σ G4 H4 ⟨⟨acc4, l4, ha4⟩, c, d, rfl⟩
      rw [List.length_map, List.take_length] at ha4
      exact ⟨G4, ⟨acc4, ⟨l4.ex, (l2.gg.trans e3.gg).trans l4.gg, l4.loc⟩, by rw [hF]; exact ha4⟩, _, _, _, _, rfl⟩
  · rintro σ G2 H2 ⟨⟨acc, l2, ha⟩, a, b, c, d, rfl⟩
    rw [List.length_map, List.take_length] at ha
    have e5 := l2.loc.took l2.ex hp
    have hml : (metS ss ts).length ≤ 10000 := by
      have := metS_len ss hs2
      omega
    exact st_ret e5.fr (ev_call (Φs := [PSq K ((metS ss ts).map spanD)]) (eva_cons (var_ (by rfl) (ps_list (Dp.lst (.inl (.inl upd_same)) (dasame ha (Same.new l2.loc.out))))) eva_nil) ⟨rfl, metS ss ts, hml, rfl, rfl⟩ (.inl rfl)) (exq q e5)
def gapsS : List Span → Option Int → List Span
  | [], b => [(b, none)]
  | s :: r, b => (match s.1 with | some l => [(b, some (l - 1))] | none => []) ++ (match s.2 with | some h => gapsS r (some (h + 1)) | none => [])
def gapsH (b lo : Option Int) : List Span := match lo with
  | some l => [(b, some (l - 1))]
  | none => []
def gapsT (r : List Span) (hi : Option Int) : List Span := match hi with
  | some h => gapsS r (some (h + 1))
  | none => []
theorem gapsS_cons (s : Span) (r : List Span) (b : Option Int) : gapsS (s :: r) b = gapsH b s.1 ++ gapsT r s.2 := by
  rcases s with ⟨lo, hi⟩
  cases lo <;> cases hi <;> rfl
theorem gapsS_len : ∀ (ss : List Span) (b : Option Int), (gapsS ss b).length ≤ ss.length + 1
  | [], _ => Nat.le_refl _
  | (lo, none) :: r, b => by cases lo <;> simp [gapsS]
  | (lo, some h) :: r, b => by
    have := gapsS_len r (some (h + 1))
    cases lo <;> simp [gapsS] <;> omega
def S_gaps_of (K : PySem.W.Frag) : Ow → List Pr → Pr → Prop := fun o Φs Ψ => o = .no ∧ ∃ ss : List Span, ss.length ≤ 80 ∧ Φs = [PD K (.tuple (ss.map spanD))] ∧ Ψ = PD K (.list ((gapsS ss none).map spanD))
theorem ok_gaps_of (A : At K mg "gaps_of" s_gaps_of) : Def P w K mg base 1 "gaps_of" ["spans"] (Fn (S_gaps_of K)) := by
  refine def_of A sc_gaps_of (fun _ _ _ _ _ _ us hl => match us, hl with | [_], _ => rfl) (fun vs H Q E h => Fn.len (fun o Φs Ψ ⟨_, ss, _, h3, _⟩ => by rw [h3] <;> rfl) h) fun f cdv A outer s H vs Q E hr h => ?_
  obtain ⟨_, _, _, G, ⟨rfl, ss, hs1, rfl, rfl⟩, fr, hv, q⟩ := h
  obtain ⟨x, rfl, hx⟩ := allp1 hv
  refine ⟨_, (pss_cons (ps_set (i := 1) sc_gaps_of.nd rfl (.inl rfl) (pe_lst pa_nil))
    (pss_cons (ps_set (i := 2) sc_gaps_of.nd rfl (.inl rfl) (pe_tup pa_nil))
    (pss_cons (ps_for PassesOwn.never rfl (kPiT (K := K) rfl (pv 0)) (kPgTup (K := K) (n := 2) rfl rfl (pgs_cons (pg_name (i := 3) sc_gaps_of.nd rfl (.inl rfl)) (pgs_cons (pg_name (i := 4) sc_gaps_of.nd rfl (.inl rfl)) pgs_nil))) (Evl.pss_cut (ps_if (pt_cmpR (kNeD (K := K) rfl hr.units) (pv 3) (pe_tup pa_nil) (nomark _)) (pss_one (ps_expr (kBm (K := K) rfl PySem.F.plainAttrs_list PySem.F.slot_list_append PySem.F.type_list_append mt_append (pv 1) (pa_cons (pe_tup (pa_cons (pv 2) (pa_cons (pe_tup (pa_cons (pe_op op_sub (pe_ix (ixT (K := K) rfl) (pv 3) pe_int (fun _ _ => rfl)) pe_int) pa_nil)) pa_nil))) pa_nil)))) pss_nil)
      (pss_cons (ps_if (pt_cmpR (kEqD (K := K) rfl hr.units) (pv 4) (pe_tup pa_nil) (nomark _)) (pss_one (ps_ret (pv 1))) pss_nil)
      (pss_one (ps_set (i := 2) sc_gaps_of.nd rfl (.inl rfl) (pe_tup (pa_cons (pe_op op_add (pe_ix (ixT (K := K) rfl) (pv 4) pe_int (fun _ _ => rfl)) pe_int) pa_nil)))))))
    (pss_cons (ps_expr (kBm (K := K) rfl PySem.F.plainAttrs_list PySem.F.slot_list_append PySem.F.type_list_append mt_append (pv 1) (pa_cons (pe_tup (pa_cons (pv 2) (pa_cons (pe_tup pa_nil) pa_nil))) pa_nil)))
    (pss_one (ps_ret (pv 1))))))), ?_⟩
  refine st_new fr fun p hp e0 => ?_
  have l0 : Loc .no G (upd H p (.lst [])) p [] := Loc.new fr hp
  walk_at "nx"
  refine st_set (Φ := PD K (endD none)) e0.fr (evd_tup (ds := []) eva_nil (by decide)) fun v1 H1 G1 e1 p1 => ?_
  walk_at "nx"
  refine for_ e1.fr (ito_tupF (bs := ss) (enc := spanD) (var_ (by rfl) (Pr.mono _ e1.gg hx))) fun G2 H2 e2 => ?_
  refine ⟨fun i σ G' H' => (∃ acc F b, Lp .no G H G2 G' H' p acc ∧ DpAll K G' acc (F.map spanD) ∧ F.length ≤ i ∧ gapsS ss none = F ++ gapsS (ss.drop i) b ∧ ∃ u c d, Dp K G' u (endD b) ∧ σ = [some x, some (.ref p), some u, c, d]), ⟨[], [], none, ⟨(e0.trans e1).trans e2, Same.refl _, (l0.ex e1).ex e2⟩, .nil, Nat.le_refl _, rfl, v1, _, _, dsame p1 e2.gg, rfl⟩, fun i σ G H ⟨_, _, _, h, _⟩ => ⟨h.gg, h.ex.fr.sub⟩, ?_, ?_⟩
  · rintro i φ v σ G3 H3 hi hv3 ⟨acc, F, b, l3, ha, hFi, hF, u, c, d, hu, rfl⟩
    rw [List.getElem?_map] at hi
    obtain ⟨⟨lo, hi0⟩, hs, rfl⟩ := Option.map_eq_some_iff.mp hi
    have hil : i < ss.length := (List.getElem?_eq_some_iff.mp hs).1
    refine g_pair hv3 l3.ex.fr.sub fun vlo vhi hlo hhi => ?_
    have hd : ss.drop i = (lo, hi0) :: ss.drop (i + 1) := by
      rw [List.drop_eq_getElem_cons hil]
      rw [List.getElem?_eq_getElem hil] at hs
      rw [Option.some.inj hs]
    rw [hd, gapsS_cons, ← List.append_assoc] at hF
    dsimp only at hF hlo hhi
    refine ⟨fun σ4 H4 => ∃ G4 acc4 F4, σ4 = [some x, some (.ref p), some u, some vlo, some vhi] ∧ Lp .no G H G2 G4 H4 p acc4 ∧ DpAll K G4 acc4 (F4.map spanD) ∧ F4.length ≤ i + 1 ∧ gapsS ss none = F4 ++ gapsT (ss.drop (i + 1)) hi0 ∧ Same G3 G4, ?_, ?_⟩
    · have hac : acc.length ≤ 1000 := by rw [dalen ha, List.length_map]; omega
      cases lo with
      | none =>
        refine st_no l3.ex.fr (by walk_at "ev") fun H4 G4 e4 => ?_
        walk_at "nx"
        refine ⟨G4, acc, F, rfl, l3.step e4, dasame ha e4.gg, by omega, ?_, e4.gg⟩
        rw [show gapsH b none = [] from rfl, List.append_nil] at hF
        exact hF
      | some l =>
        refine st_yes l3.ex.fr (by walk_at "ev") fun H4 G4 e4 => ?_
        walk_at "nx"
        have l4 := l3.step e4
        replace hu := dsame hu e4.gg
        replace hlo := dsame hlo e4.gg
        refine st_append (Φ := PD K (spanD (b, some (l - 1)))) l4.ex.fr l4.loc (by omega) (by rfl) (evd_tup (ds := [endD b, endD (some (l - 1))]) (eva_cons (var_ (by rfl) hu) (eva_cons (evd_tup (ds := [.int (l - 1)]) (eva_cons (intI_ (evd_ixT (ds := [.int l]) (var_ (by rfl) hlo) evd_int rfl) evd_int rfl) eva_nil) (by simp)) eva_nil)) (by simp)) fun z H5 G5 e5 pz fr5 l5 => ?_
        refine ⟨G5, _, F ++ [(b, some (l - 1))], rfl, (l4.step e5).put hp, ?_, by simp; omega, hF, (e4.trans e5).gg⟩
        rw [List.map_append]
        exact daapp (dasame ha (e4.trans e5).gg) (daone pz)
    · rintro σ4 H4 ⟨G4, acc4, F4, rfl, l4, ha4, hF4, hg, s34⟩
      walk_at "nx"
      replace hhi := dsame hhi s34
      cases hi0 with
      | none =>
        refine st_yes l4.ex.fr (by walk_at "ev") fun H5 G5 e5 => ?_
        walk_at "nx"
        have l5 := l4.step e5
        have e6 := l5.loc.took l5.ex hp
        refine st_ret e6.fr (Φ := PD K (.list ((gapsS ss none).map spanD))) (var_ (by rfl) ?_) (exq q e6)
        rw [hg, show gapsT (ss.drop (i + 1)) none = [] from rfl, List.append_nil]
        exact Dp.lst (.inl (.inl upd_same)) (dasame (dasame ha4 e5.gg) (Same.new l5.loc.out))
      | some h =>
        refine st_no l4.ex.fr (by walk_at "ev") fun H5 G5 e5 => ?_
        walk_at "nx"
        have l5 := l4.step e5
        replace hhi := dsame hhi e5.gg
        refine st_set (Φ := PD K (endD (some (h + 1)))) l5.ex.fr (evd_tup (ds := [.int (h + 1)]) (eva_cons (intI_ (evd_ixT (ds := [.int h]) (var_ (by rfl) hhi) evd_int rfl) evd_int rfl) eva_nil) (by simp)) fun z H6 G6 e6 pz => ?_
        exact ⟨G6, acc4, F4, some (h + 1), l5.step e6, dasame ha4 (e5.trans e6).gg, hF4, hg, z, _, _, pz, rfl⟩
  · rintro σ G3 H3 ⟨acc, F, b, l3, ha, hFi, hF, u, c, d, hu, rfl⟩
    rw [List.length_map] at hFi hF
    rw [List.drop_length] at hF
    walk_at "nx"
    refine st_append (Φ := PD K (spanD (b, none))) l3.ex.fr l3.loc ?_ (by rfl) (evd_tup (ds := [endD b, endD none]) (eva_cons (var_ (by rfl) hu) (eva_cons (evd_tup (ds := []) eva_nil (by decide)) eva_nil)) (by simp)) fun z H5 G5 e5 pz fr5 l5 => ?_
    · rw [dalen ha, List.length_map]; omega
    · walk_at "nx"
      have l6 := (l3.step e5).put hp (acc' := acc ++ [z])
      have e6 := l6.loc.took l6.ex hp
      refine st_ret e6.fr (Φ := PD K (.list ((gapsS ss none).map spanD))) (var_ (by rfl) ?_) (exq q e6)
      rw [hF, List.map_append]
      exact Dp.lst (.inl (.inl upd_same)) (dasame (daapp (dasame ha e5.gg) (daone pz)) (Same.new l6.loc.out))
def apartS (one other : List Span) : List Int := ((formedS (metS one (gapsS (formedS other) none))).take 1).map fun s => numOf s.1 s.2
theorem formedS_len (ss : List Span) : (formedS ss).length ≤ ss.length := by
  unfold formedS
  refine Nat.le_trans (mergeS_len _ _ rfl) ?_
  unfold srtS
  rw [List.length_mergeSort]
  exact List.length_filter_le _ _
def S_spans_apart (K : PySem.W.Frag) : Ow → List Pr → Pr → Prop := fun o Φs Ψ => o = .no ∧ ∃ ss ts : List Span, ss.length ≤ 80 ∧ ts.length ≤ 80 ∧ Φs = [PD K (.tuple (ss.map spanD)), PD K (.tuple (ts.map spanD))] ∧ Ψ = PD K (.list ((apartS ss ts).map .int))
theorem ok_spans_apart (D_spans_met : Def P w K mg base 3 "spans_met" ["one", "other"] (Fn (S_spans_met K))) (D_gaps_of : Def P w K mg base 1 "gaps_of" ["spans"] (Fn (S_gaps_of K))) (D_spans_formed : Def P w K mg base 2 "spans_formed" ["spans"] (Fn (S_spans_formed K))) (D_number_of : Def P w K mg base 1 "number_of" ["low", "high"] (FnR K 2 R_number_of))
    (A : At K mg "spans_apart" s_spans_apart) : Def P w K mg base 4 "spans_apart" ["one", "other"] (Fn (S_spans_apart K)) := by
  refine def_of A sc_spans_apart (fun _ _ _ _ _ _ us hl => match us, hl with | [_, _], _ => rfl) (fun vs H Q E h => Fn.len (fun o Φs Ψ ⟨_, ss, _, _, _, h3, _⟩ => by rw [h3] <;> rfl) h) fun f cdv A outer s H vs Q E hr h => ?_
  obtain ⟨_, _, _, G, ⟨rfl, ss, ts, hs1, hs2, rfl, rfl⟩, fr, hv, q⟩ := h
  obtain ⟨x, y, rfl, hx, hy⟩ := allp2 hv
  refine ⟨_, (pss_cons (ps_set (i := 2) sc_spans_apart.nd rfl (.inl rfl) (pe_def D_spans_met hr (by omega) (by rfl) (pa_cons (pv 0) (pa_cons (pe_def D_gaps_of hr (by omega) (by rfl) (pa_cons (pe_def D_spans_formed hr (by omega) (by rfl) (pa_cons (pv 1) pa_nil)) pa_nil)) pa_nil))))
    (pss_one (ps_ret (pe_lc (own := [("low", 3), ("high", 4)]) (tt := tYes) rfl sc_spans_apart.nd (kPiT (K := K) rfl (pe_slice (kSlA (K := K) rfl) (pv 2) po_none (po_some pe_int))) (blkOk_by (N := n_spans_apart) (sc := (defScope s_spans_apart)) (by decide +kernel)) (fun _ _ _ _ _ => (kPgTup (K := K) (n := 2) rfl rfl (pgs_cons (pg_name (i := 3) sc_spans_apart.nd rfl (.inl rfl)) (pgs_cons (pg_name (i := 4) sc_spans_apart.nd rfl (.inl rfl)) pgs_nil)))) (fun _ _ _ _ _ => pts_nil) (fun _ _ _ _ _ => (pe_def D_number_of hr (by omega) (by rfl) (pa_cons (pv 3) (pa_cons (pv 4) pa_nil)))))))), ?_⟩
  have hf := formedS_len ts
  have hg := gapsS_len (formedS ts) none
  refine st_set (Φ := PD K (.tuple ((formedS (metS ss (gapsS (formedS ts) none))).map spanD))) fr ?_ fun v1 H1 G1 e1 p1 => ?_
  · refine ev_call (Φs := [PD K (.tuple (ss.map spanD)), PD K (.list ((gapsS (formedS ts) none).map spanD))]) (eva_cons (var_ (by rfl) hx) (eva_cons ?_ eva_nil)) ⟨rfl, ss, gapsS (formedS ts) none, by omega, by omega, rfl, rfl⟩ (.inl rfl)
    refine ev_call (Φs := [PD K (.tuple ((formedS ts).map spanD))]) (eva_cons ?_ eva_nil) ⟨rfl, formedS ts, by omega, rfl, rfl⟩ (.inl rfl)
    exact ev_call (Φs := [PSq K (ts.map spanD)]) (eva_cons (var_ (by rfl) (ps_tup hy)) eva_nil) ⟨rfl, ts, by omega, rfl, rfl⟩ (.inl rfl)
  · walk_at "nx"
    have hm := metS_len ss (ts := gapsS (formedS ts) none) (by omega)
    have hn := formedS_len (metS ss (gapsS (formedS ts) none))
    refine st_ret e1.fr (Φ := PD K (.list ((apartS ss ts).map .int))) ?_ (exq q e1)
    unfold apartS
    rw [List.map_map]
    refine lcd2 (bs := (formedS (metS ss (gapsS (formedS ts) none))).take 1) (Θ1 := fun s => PD K (endD s.1)) (Θ2 := fun s => PD K (endD s.2)) (by decide) (by decide) ?_ (by rw [List.length_take]; omega) fun b hb u v G2 s2 h1 h2 => ?_
    · have it := ito_tupF (o := .no) (K := K) (bs := (formedS (metS ss (gapsS (formedS ts) none))).take 1) (enc := spanD) (σ := [some x, some y, some v1, none, none]) (G := G1) (tl := tSl (rSlA K) (tVar 2) tNoPart (tPart (tC (V.int 1)))) (by
        have sl := slT_ (o := .no) (K := K) (σ := [some x, some y, some v1, none, none]) (G := G1) (te := tVar 2) (var_ (by rfl) p1) evo_none (evo_some (K := K) (te := tC (V.int 1)) evd_int)
        rw [show (1 : Int) = ((1 : Nat) : Int) from rfl, cutD_map, cutD_take] at sl
        exact sl)
      exact it_pair it
    · exact evd_call (ds := [endD b.1, endD b.2]) (eva_cons (var_ (by rfl) h1) (eva_cons (var_ (by rfl) h2) eva_nil)) (by rfl) ⟨_, _, rfl, rfl⟩
end
end Fm
set_option maxHeartbeats 4000000
/-! FmX: texts: numbers, parting, splitting. -/
namespace Fm
open PySem PySem.Spec PySem.StrLaws PySem.NumText PySem.Builtin PySem.Builtin.Str
/-! ### texts as rows of signs -/
abbrev sg (x : Str) : List Nat := x.cps.toList
def ofL (l : List Nat) : Str := ⟨l.toArray⟩
theorem sg_ofL (l : List Nat) : sg (ofL l) = l := by simp [sg, ofL]
theorem str_ext {x y : Str} (h : sg x = sg y) : x = y := Str.ext' (Array.toList_inj.mp h)
theorem len_sg (x : Str) : x.length = (sg x).length := by simp [sg, PySem.Str.length]
theorem sg_app (x y : Str) : sg (x ++ y) = sg x ++ sg y := by
  show (x.cps ++ y.cps).toList = _
  simp
theorem at_iff (x y : Str) (i : Nat) : StrLaws.At x y x.length i ↔ i + y.length ≤ x.length ∧ ((sg x).drop i).take y.length = sg y := by
  unfold StrLaws.At
  rw [subAt_eq, beq_iff_eq]
theorem at_head {x y : Str} {c : Nat} {ys : List Nat} (hy : sg y = c :: ys) {i : Nat} (h : StrLaws.At x y x.length i) : (sg x)[i]? = some c := by
  obtain ⟨h1, h2⟩ := (at_iff x y i).mp h
  rw [hy] at h2
  have e : (((sg x).drop i).take y.length)[0]? = some c := by rw [h2] <;> rfl
  rw [List.getElem?_take] at e
  split at e
  · rw [List.getElem?_drop] at e
    simpa using e
  · cases e
theorem at_here {x y : Str} {a b : List Nat} (h : sg x = a ++ sg y ++ b) : StrLaws.At x y x.length a.length := by
  refine (at_iff x y _).mpr ⟨?_, ?_⟩
  · rw [len_sg x, len_sg y, h]
    simp
  · rw [h, List.append_assoc, List.drop_left, len_sg y, List.take_left]
theorem strSub_ofL (x : Str) (i j : Nat) : strSub x i j = ofL (((sg x).drop i).take (j - i)) := str_ext (by rw [sg_ofL]; exact strSub_toList x i j)
theorem subAt_sg (x y : Str) (i : Nat) : subAt x y i = (((sg x).drop i).take y.length == sg y) := subAt_eq x y i
theorem starts1 {x y : Str} {c : Nat} (hy : sg y = [c]) : Txt.startswith x y = decide ((sg x).head? = some c) := by
  have hl : y.length = 1 := by rw [len_sg, hy] <;> rfl
  unfold Txt.startswith
  rw [subAt_sg, hl, hy, len_sg x, List.drop_zero]
  generalize sg x = L
  cases L with
  | nil => simp
  | cons d r =>
    by_cases e : d = c
    · subst e; simp
    · simp [e]
theorem ends1 {x y : Str} {c : Nat} (hy : sg y = [c]) : Txt.endswith x y = decide ((sg x).getLast? = some c) := by
  have hl : y.length = 1 := by rw [len_sg, hy] <;> rfl
  unfold Txt.endswith
  rw [subAt_sg, hl, hy, len_sg x]
  generalize sg x = L
  rcases List.eq_nil_or_concat L with h | ⟨r, d, h⟩
  · rw [h]; simp
  · rw [List.concat_eq_append] at h
    rw [h, List.getLast?_concat]
    have e2 : (r ++ [d]).length - 1 = r.length := by simp
    rw [e2, List.drop_left]
    by_cases e : d = c
    · subst e; simp
    · simp [e]
theorem part_at {x y : Str} {c : Nat} {ys a b : List Nat} (hy : sg y = c :: ys) (h : sg x = a ++ sg y ++ b) (ha : c ∉ a) : Txt.partition x y = (ofL a, y, ofL b) := by
  have h0 := at_here h
  unfold Txt.partition
  rcases occ_head x y 1 (Nat.le_refl 1) with ⟨_, hn⟩ | ⟨i, r, e, hi, hm⟩
  · exact absurd h0 (hn _)
  · have hia : i = a.length := by
      rcases Nat.lt_trichotomy i a.length with k | k | k
      · exfalso
        have q := at_head hy hi
        rw [h, List.append_assoc, List.getElem?_append_left k] at q
        exact ha (List.mem_of_getElem? q)
      · exact k
      · exact absurd h0 (hm _ k)
    rw [e]
    dsimp only
    rw [hia, strSub_ofL, strSub_ofL, h]
    congr 1
    · rw [List.drop_zero, Nat.sub_zero, List.append_assoc, List.take_left]
    · congr 1
      have e1 : (a ++ sg y ++ b).drop (a.length + y.length) = b := by
        have : a.length + y.length = (a ++ sg y).length := by rw [List.length_append, len_sg]
        rw [this, List.drop_left]
      rw [e1, List.take_of_length_le]
      rw [len_sg x, h, len_sg y]
      simp
      omega
theorem part_no {x y : Str} {c : Nat} {ys : List Nat} (hy : sg y = c :: ys) (hx : c ∉ sg x) : Txt.partition x y = (x, Str.empty, Str.empty) := by
  unfold Txt.partition
  rcases occ_head x y 1 (Nat.le_refl 1) with ⟨e, _⟩ | ⟨i, r, e, hi, hm⟩
  · rw [e]
  · exact absurd (List.mem_of_getElem? (at_head hy hi)) hx
/-! ### split what was joined -/
theorem sg_join_cons (y p q : Str) (r : List Str) : sg (Str.join y (p :: q :: r)) = sg p ++ sg y ++ sg (Str.join y (q :: r)) := by
  show sg (p ++ y ++ Str.join y (q :: r)) = _
  rw [sg_app, sg_app]
theorem parts_back {x y : Str} {c : Nat} {ys : List Nat} (hy : sg y = c :: ys) : ∀ (ps : List Str) (cuts : List Nat) (a f : Nat), ps ≠ [] → (∀ p ∈ ps, c ∉ sg p) → (sg x).drop a = sg (Str.join y ps) → a ≤ x.length → ChainG x y x.length a cuts f → (∀ k, f ≤ k → ¬ StrLaws.At x y x.length k) →
    partsFrom x y.length a cuts = ps
  | [], _, _, _, h, _, _, _, _, _ => absurd rfl h
  | [p], cuts, a, f, _, hp, hd, ha, hG, hn => by
    have no : ∀ k, a ≤ k → ¬ StrLaws.At x y x.length k := fun k hk hA => by
      have q := at_head hy hA
      have e : ((sg x).drop a)[k - a]? = some c := by rw [List.getElem?_drop, show a + (k - a) = k by omega]; exact q
      rw [hd] at e
      exact hp p List.mem_cons_self (List.mem_of_getElem? e)
    cases cuts with
    | cons d r => exact absurd hG.2.1 (no d hG.1)
    | nil =>
      show [strSub x a x.length] = [p]
      rw [strSub_ofL]
      congr 1
      refine str_ext ?_
      rw [sg_ofL, List.take_of_length_le (by rw [List.length_drop, len_sg]; omega)]
      exact hd
  | p :: q :: r, cuts, a, f, _, hp, hd, ha, hG, hn => by
    rw [sg_join_cons] at hd
    have hxl : (sg x).length = a + ((sg p).length + (sg y).length + (sg (Str.join y (q :: r))).length) := by
      have := congrArg List.length hd
      rw [List.length_drop, List.length_append, List.length_append] at this
      have h2 := len_sg x
      omega
    have hx : sg x = ((sg x).take a ++ sg p) ++ sg y ++ sg (Str.join y (q :: r)) := by
      rw [List.append_assoc, List.append_assoc, ← List.append_assoc (sg p), ← hd, List.take_append_drop]
    have hal : ((sg x).take a ++ sg p).length = a + (sg p).length := by
      rw [List.length_append, List.length_take]
      omega
    have h0 : StrLaws.At x y x.length (a + (sg p).length) := by
      have := at_here hx
      rw [hal] at this
      exact this
    have no : ∀ k, a ≤ k → k < a + (sg p).length → ¬ StrLaws.At x y x.length k := fun k h1 h2 hA => by
      have e := at_head hy hA
      have e2 : ((sg x).drop a)[k - a]? = some c := by rw [List.getElem?_drop, show a + (k - a) = k by omega]; exact e
      rw [hd, List.append_assoc, List.getElem?_append_left (by omega)] at e2
      exact hp p List.mem_cons_self (List.mem_of_getElem? e2)
    cases cuts with
    | nil =>
      have e : f = a := hG
      exact absurd h0 (hn _ (by omega))
    | cons d s =>
      obtain ⟨g1, g2, g3, g4⟩ := hG
      have hde : d = a + (sg p).length := by
        rcases Nat.lt_trichotomy d (a + (sg p).length) with k | k | k
        · exact absurd g2 (no d g1 k)
        · exact k
        · exact absurd h0 (g3 _ (by omega) k)
      subst hde
      show strSub x a (a + (sg p).length) :: partsFrom x y.length (a + (sg p).length + y.length) s = p :: q :: r
      rw [parts_back hy (q :: r) s _ f (by simp) (fun z hz => hp z (List.mem_cons_of_mem _ hz)) ?_ ?_ g4 hn, strSub_ofL]
      · congr 1
        refine str_ext ?_
        rw [sg_ofL, hd, show a + (sg p).length - a = (sg p).length by omega, List.append_assoc, List.take_left]
      · have e : a + (sg p).length + y.length = ((sg x).take a ++ sg p ++ sg y).length := by
          rw [List.length_append, hal, len_sg y]
        rw [e]
        have e2 := congrArg (List.drop ((sg x).take a ++ sg p ++ sg y).length) hx
        rw [List.drop_left] at e2
        exact e2
      · rw [len_sg x, len_sg y, hxl]
        omega
theorem split_back {y : Str} {c : Nat} {ys : List Nat} (hy : sg y = c :: ys) (hk : Builtin.Str.strKind y = 1) {ps : List Str} (h0 : ps ≠ []) (hp : ∀ p ∈ ps, c ∉ sg p) : Txt.split (Str.join y ps) y = ps := by
  have hyl : 1 ≤ y.length := by rw [len_sg, hy]; simp
  obtain ⟨f, hG, hn⟩ := occ_tight (Str.join y ps) y hyl
  have hb := parts_back hy ps _ 0 f h0 hp (by rw [List.drop_zero]) (Nat.zero_le _) hG hn
  have none : ∀ {x : Str}, x = Str.join y ps → occurrences x y 0 x.length (x.length + 1) = [] → [x] = ps := fun {x} e ho => by
    subst e
    rw [ho] at hb
    have e2 : [strSub (Str.join y ps) 0 (Str.join y ps).length] = ps := hb
    rw [sub_whole] at e2
    exact e2
  unfold Txt.split
  split
  · rename_i h
    refine none rfl ?_
    rw [Bool.or_eq_true, decide_eq_true_eq, decide_eq_true_eq] at h
    rcases h with h | h
    · cases q : occurrences (Str.join y ps) y 0 (Str.join y ps).length ((Str.join y ps).length + 1) with
      | nil => rfl
      | cons d r =>
        rw [q] at hG
        have := hG.2.1.1
        omega
    · exfalso
      rw [hk] at h
      unfold Builtin.Str.strKind at h
      split at h
      · omega
      · split at h <;> omega
  · split
    · rename_i h
      exact none rfl (List.isEmpty_iff.mp h)
    · rw [partsBetween_eq]
      exact hb
end Fm
set_option maxHeartbeats 4000000
/-! FmN: whole numbers as texts. -/
namespace Fm
open PySem PySem.Spec PySem.StrLaws PySem.NumText PySem.Builtin PySem.Builtin.Str
def digs (m : Nat) : List Nat := (Nat.toDigits 10 m).map Char.toNat
def numT (n : Int) : Str := Str.ofString (toString n)
theorem sg_numT_nat (m : Nat) : sg (numT (m : Int)) = digs m := PySem.W.KIN.signs_num m
theorem sg_numT_neg (m : Nat) : sg (numT (Int.negSucc m)) = 45 :: digs (m + 1) := by
  unfold numT sg
  rw [PyProof.Rows.signs_ofString]
  have e : toString (Int.negSucc m) = "-" ++ Nat.repr (m + 1) := rfl
  rw [e, String.toList_append, List.map_append, Nat.toList_repr]
  rfl
theorem digs_all (m : Nat) : AllDigits (digs m) := fun c hc => by
  obtain ⟨ch, hch, e⟩ := List.mem_map.mp hc
  have r := PyProof.Rows.digit_range (Nat.isDigit_of_mem_toDigits (by decide) (by decide) hch)
  rw [← e]
  exact r
theorem digs_val (m : Nat) : digitsVal (digs m) = m := PySem.W.KIN.val_back m
theorem digs_step {m : Nat} (h : 10 ≤ m) : digs m = digs (m / 10) ++ digs (m % 10) := by
  have hm : m % 10 < 10 := Nat.mod_lt m (by decide)
  have t : Nat.toDigits 10 (m / 10) ++ Nat.toDigits 10 (m % 10) = Nat.toDigits 10 (10 * (m / 10) + m % 10) := Nat.toDigits_append_toDigits (by decide) (by omega) hm
  rw [Nat.div_add_mod] at t
  unfold digs
  rw [← t, List.map_append]
theorem digs_lt {d : Nat} (hd : d < 10) : digs d = [48 + d] := by
  have : ∀ d : Fin 10, digs d.val = [48 + d.val] := by decide
  exact this ⟨d, hd⟩
theorem digs_ne (m : Nat) : digs m ≠ [] := fun e => by
  by_cases h : m < 10
  · rw [digs_lt h] at e; cases e
  · rw [digs_step (by omega), digs_lt (Nat.mod_lt m (by decide))] at e
    exact absurd (List.append_eq_nil_iff.mp e).2 (by simp)
theorem digs_zero : digs 0 = [48] := by decide
theorem digs_head : ∀ (m : Nat), m ≠ 0 → ∃ c r, digs m = c :: r ∧ c ≠ 48 := by
  intro m
  induction m using Nat.strongRecOn with
  | _ m ih =>
    intro h0
    by_cases h : m < 10
    · have : ∀ d : Nat, d < 10 → d ≠ 0 → ∃ c r, digs d = c :: r ∧ c ≠ 48 := by
        intro d hd h0
        have e : digs d = [48 + d] := by
          exact digs_lt hd
        exact ⟨48 + d, [], e, by omega⟩
      exact this m h h0
    · obtain ⟨c, r, e, hc⟩ := ih (m / 10) (by omega) (by omega)
      rw [digs_step (by omega), e]
      exact ⟨c, r ++ digs (m % 10), rfl, hc⟩
theorem digs_len {m : Nat} (h : m < 10 ^ 60) : (digs m).length ≤ 60 := by
  unfold digs
  rw [List.length_map, ← Nat.toList_repr, String.length_toList]
  exact (Nat.length_repr_le_iff (by decide)).mpr h
theorem numT_free {n : Int} {k : Nat} (h : k ≠ 45 ∧ (k < 48 ∨ 57 < k)) : k ∉ sg (numT n) := by
  cases n with
  | ofNat m =>
    rw [show Int.ofNat m = (m : Int) from rfl, sg_numT_nat]
    intro hm
    have := digs_all m k hm
    omega
  | negSucc m =>
    rw [sg_numT_neg]
    intro hm
    rcases List.mem_cons.mp hm with e | hm
    · exact h.1 e
    · have := digs_all (m + 1) k hm
      omega
theorem numT_len {n : Int} (h : n.natAbs < 10 ^ 60) : (numT n).length ≤ 61 := by
  rw [len_sg]
  cases n with
  | ofNat m =>
    rw [show Int.ofNat m = (m : Int) from rfl, sg_numT_nat]
    exact Nat.le_succ_of_le (digs_len h)
  | negSucc m =>
    rw [sg_numT_neg, List.length_cons]
    have := digs_len (m := m + 1) h
    omega
theorem numT_reads {n : Int} (h : n.natAbs < 10 ^ 60) : PySem.intText? (numT n) = some n := by
  have hl := numT_len h
  cases n with
  | ofNat m =>
    have e := sg_numT_nat m
    have q := intText_digits (x := numT (m : Int)) (by rw [show (numT (m : Int)).cps.toList = digs m from e]; exact digs_all m) (by rw [show (numT (m : Int)).cps.toList = digs m from e]; exact digs_ne m) (Nat.le_trans hl (by decide))
    rw [show (numT (m : Int)).cps.toList = digs m from e, digs_val] at q
    exact q
  | negSucc m =>
    have q := intText_neg (x := numT (Int.negSucc m)) (sg_numT_neg m) (digs_all _) (digs_ne _) (Nat.le_trans hl (by decide))
    rw [digs_val] at q
    rw [q]
    rfl
theorem numT_ne (n : Int) : sg (numT n) ≠ [] := by
  cases n with
  | ofNat m =>
    rw [show Int.ofNat m = (m : Int) from rfl, sg_numT_nat]
    exact digs_ne m
  | negSucc m =>
    rw [sg_numT_neg]
    exact fun e => nomatch e
/-! ### the program's test of figures -/
def isFig (c : Nat) : Bool := decide (c ∈ sg ("0123456789" : Str))
def areFigs (x : Str) : Bool := !decide (x = "") && decide (x.length ≤ 60) && (sg x).all isFig && (decide (x = "0") || !decide ((sg x).head? = some 48))
theorem isFig_of {c : Nat} (h : 48 ≤ c ∧ c ≤ 57) : isFig c = true := by
  have : ∀ d : Fin 10, isFig (48 + d.val) = true := by decide +kernel
  have e := this ⟨c - 48, by omega⟩
  rw [show 48 + (c - 48) = c by omega] at e
  exact e
theorem areFigs_digs {x : Str} {m : Nat} (h : sg x = digs m) (hm : m < 10 ^ 60) : areFigs x = true := by
  unfold areFigs
  rw [Bool.and_eq_true, Bool.and_eq_true, Bool.and_eq_true, Bool.or_eq_true]
  refine ⟨⟨⟨?_, ?_⟩, ?_⟩, ?_⟩
  · rw [Bool.not_eq_true', decide_eq_false_iff_not]
    rintro rfl
    exact digs_ne m (by rw [← h] <;> rfl)
  · rw [decide_eq_true_eq, len_sg, h]
    exact digs_len hm
  · rw [h, List.all_eq_true]
    exact fun c hc => isFig_of (digs_all m c hc)
  · by_cases h0 : m = 0
    · left
      subst h0
      rw [decide_eq_true_eq]
      exact str_ext (by rw [h, digs_zero] <;> rfl)
    · right
      obtain ⟨c, r, e, hc⟩ := digs_head m h0
      rw [h, e, Bool.not_eq_true', decide_eq_false_iff_not]
      exact fun z => hc (Option.some.inj z)
end Fm
set_option maxHeartbeats 4000000
/-! FmT: names, numbers, spans as texts. -/
namespace Fm
open PySem PySem.Spec PyProof.Rows L2
theorem unit_shaped' : SeqAt.shaped (.tuple []) = true := by decide +kernel
local macro_rules | `(tactic| walk_at "nx") => `(tactic| try dsimp only [tSeq, tNext])
def otherW : List Str := ["any", "none", "blank", "new", "on"]
def isLet (c : Nat) : Bool := decide (c ∈ sg ("abcdefghijklmnopqrstuvwxyz" : Str))
def isName (x : Str) : Bool := !decide (x = "") && (decide (x.length ≤ 8) && (!decide (x ∈ otherW) && (sg x).all isLet))
def R_is_name : List PyData → PyData → Prop := fun ds d => ∃ x : Str, x.length ≤ 100000 ∧ ds = [.str x] ∧ d = .bool (isName x)
def R_are_figures : List PyData → PyData → Prop := fun ds d => ∃ x : Str, x.length ≤ 100000 ∧ ds = [.str x] ∧ d = .bool (areFigs x)
def R_read_number : List PyData → PyData → Prop := fun ds d => ∃ n : Int, n.natAbs < 10 ^ 60 ∧ ds = [.str (numT n)] ∧ d = .int n
def R_show_number : List PyData → PyData → Prop := fun ds d => ∃ n : Int, n.natAbs < 10 ^ 60 ∧ ds = [.int n] ∧ d = .str (numT n)
theorem cutS_sg (x : Str) (lo hi : Option Int) : sg (cutS x lo hi) = cutD (sg x) lo hi := by
  unfold cutS cutD
  rw [len_sg x]
theorem cut_ends {α : Type} (a b : α) (m : List α) : cutD (a :: (m ++ [b])) (some 1) (some (-1)) = m := by
  have hl : (a :: (m ++ [b])).length = m.length + 2 := by simp
  have e1 : HT.sIx (m.length + 2) 0 (some 1) = 1 := by
    rw [show (some (1 : Int)) = some ((1 : Nat) : Int) from rfl, HT.sIx_nat]
    omega
  have e2 : HT.sIx (m.length + 2) (m.length + 2) (some (-1)) = m.length + 1 := by
    unfold HT.sIx
    dsimp only
    rw [if_pos (by decide)]
    omega
  unfold cutD
  rw [hl, e1, e2]
  show (m ++ [b]).take (m.length + 1 - 1) = m
  rw [Nat.add_sub_cancel, List.take_left]
theorem st_asg {o : Ow} {te : TE} {g : TG} {D : Ends} {σ : L2.St} {G H : Hp} {Φ : Pr} (f : Fr o G H) (h : EvP o te σ G Φ) (q : ∀ v H1 G1, Ex o G G1 H H1 → Φ.p G1 v → g v σ H1 D.nx) : tAsg te g D σ H := h H f _ q
theorem g_trip {K : PySem.W.Frag} {G H : Hp} {d e f : PyData} {v : V} {n m k : Nat} {σ : L2.St} {Q : L2.St → Hp → Prop} (h : Dp K G v (.tuple [d, e, f])) (s : Same G H) (q : ∀ x y z, Dp K G x d → Dp K G y e → Dp K G z f → Q (((σ.set n (some x)).set m (some y)).set k (some z)) H) : gTup K 3 (gCons (gName n) (gCons (gName m) (gCons (gName k) gNil))) v σ H Q := by
  obtain ⟨a, xs, rfl, h1, h2⟩ := dp_tup h
  obtain ⟨x, y, z, rfl, p1, p2, p3⟩ := dpall3 h2
  exact ⟨a, [x, y, z], rfl, Same.tup s h1, rfl, x, [y, z], rfl, y, [z], rfl, z, [], rfl, rfl, q x y z p1 p2 p3⟩
theorem log60 {n : Int} (h : n.natAbs < 10 ^ 60) : n.natAbs.log2 < 1920 := by
  by_cases h0 : n.natAbs = 0
  · rw [h0]; decide
  · exact Nat.lt_of_lt_of_le ((Nat.log2_lt (k := 200) h0).mpr (Nat.lt_of_lt_of_le h (by decide))) (by decide)
section
variable {P : Program} {w : World} {K : PySem.W.Frag} {mg : Str → Option Value} {base : Heap}
theorem ok_is_name (Z : Zs mg) (C : Cs K mg) (A : At K mg "is_name" s_is_name) : Def P w K mg base 1 "is_name" ["thing"] (FnR K 1 R_is_name) := by
  refine def_of A sc_is_name (fun _ _ _ _ _ _ us hl => match us, hl with | [_], _ => rfl) (fun vs H Q E h => h.len) fun f cdv A outer s H vs Q E hr h => ?_
  obtain ⟨ds, d, G, hn, ⟨x, hl, rfl, rfl⟩, fr, hv, q⟩ := h.open
  obtain ⟨v, rfl, hx⟩ := dpall1 hv
  obtain ⟨ow, hOTHER_WORDS, how⟩ := C.OTHER_WORDS
  refine ⟨_, (pss_cons (ps_if (PW.pt (pw_or (pt_not (pt_val (pe_callB (kIsi (K := K) rfl) (by rfl) Z.isinstance bt_isinstance (pa_cons (pv 0) (pa_cons (pe_bltn (v := .ty "str") (by rfl) Z.str bt_str rfl) pa_nil))))) (pw_or (pt_cmpR op_eq (pv 0) pe_str (nomark _)) (pw_or1 (pt_cmpR op_gt (pe_callB call_len_str (by rfl) Z.len bt_len (pa_cons (pv 0) pa_nil)) (kGc (by rfl) C.MOST_LETTERS) (nomark _)))))) (pss_one (ps_ret pe_bl)) pss_nil)
    (pss_one (ps_ret (pe_and (pe_cmpR (kNotIn (K := K) rfl) (pv 0) (kGc (by rfl) hOTHER_WORDS) (by rfl)) (pe_one (pe_callB (kAll (K := K) rfl rfl) (by rfl) Z.all bt_all (pa_cons (pe_lc (own := [("sign", 1)]) (g := gName 1) (tt := tYes) rfl sc_is_name.nd (pi_str (pv 0)) (blkOk_by (N := n_is_name) (sc := (defScope s_is_name)) (by decide +kernel)) (fun _ _ _ _ _ => (pg_name (i := 1) sc_is_name.nd rfl (.inl rfl))) (fun _ _ _ _ _ => pts_nil) (fun _ _ _ _ _ => (pe_cmpR op_in_sign (pv 1) (kGc (by rfl) C.LETTERS) (by rfl)))) pa_nil))))))), ?_⟩
  have lens : ∀ {G' : Hp}, Dp K G' v (.str x) → EvD .no K (tOp (rI0 fun i j => .bl (decide (j < i))) (tCB rLenTx (tCons (tVar 0) tNil)) (tC (.int 8))) (L2.start n_is_name [v]) G' (.bool (!decide (x.length ≤ 8))) := fun h =>
    intB_ (lenS_ (var_ (by rfl) h) (by omega) rfl) evd_int (by
      congr 1
      by_cases z : x.length ≤ 8
      · rw [decide_eq_true z]
        exact decide_eq_false (by omega)
      · rw [decide_eq_false z]
        exact decide_eq_true (by omega))
  refine st_if (b := (decide (x = "") || !decide (x.length ≤ 8))) fr ?_ (fun hb H1 G1 e => ?_) (fun hb H1 G1 e => ?_)
  · refine (evt_or (b := false) (tnot_ (evt_B (isiStr_ (var_ (by rfl) hx))) rfl) fun _ => ?_).to (by rw [Bool.false_or])
    refine evt_or (evt_test (eqS_ (var_ (by rfl) hx) evd_str rfl)) fun _ => ?_
    exact evt_test (lens hx)
  · walk_at "nx"
    refine st_ret e.fr evd_bl (exq (Φ := PD K (.bool false)) ?_ e)
    have e2 : isName x = false := by
      unfold isName
      rcases Bool.or_eq_true_iff.mp hb with z | z
      · rw [z]; rfl
      · rw [Bool.not_eq_true'] at z
        rw [z]
        simp
    rw [e2] at q
    exact q
  · walk_at "nx"
    replace hx := dsame hx e.gg
    obtain ⟨z1, z2⟩ := Bool.or_eq_false_iff.mp hb
    have e2 : isName x = (!decide (x ∈ otherW) && (sg x).all isLet) := by
      unfold isName
      rw [Bool.not_eq_false'] at z2
      rw [z1, z2] <;> rfl
    rw [e2] at q
    refine st_ret e.fr (evd_and (notInT_ (xs := otherW) (var_ (by rfl) hx) (ev_c (how _)) rfl) fun _ => ?_) (exq q e)
    refine allLc (bs := sg x) (f := isLet) (by decide) (ito_str (var_ (by rfl) hx)) ?_ rfl fun c hc y G2 s2 hy => ?_
    · have := len_sg x
      omega
    · exact inTx_ (var_ (by rfl) hy) evd_str rfl
theorem ok_are_figures (Z : Zs mg) (C : Cs K mg) (A : At K mg "are_figures" s_are_figures) : Def P w K mg base 1 "are_figures" ["text"] (FnR K 1 R_are_figures) := by
  refine def_of A sc_are_figures (fun _ _ _ _ _ _ us hl => match us, hl with | [_], _ => rfl) (fun vs H Q E h => h.len) fun f cdv A outer s H vs Q E hr h => ?_
  obtain ⟨ds, d, G, hn, ⟨x, hl, rfl, rfl⟩, fr, hv, q⟩ := h.open
  obtain ⟨v, rfl, hx⟩ := dpall1 hv
  refine ⟨_, (pss_cons (ps_if (PW.pt (pw_or (pt_cmpR op_eq (pv 0) pe_str (nomark _)) (pw_or1 (pt_cmpR op_gt (pe_callB call_len_str (by rfl) Z.len bt_len (pa_cons (pv 0) pa_nil)) (kGc (by rfl) C.MOST_FIGURES) (nomark _))))) (pss_one (ps_ret pe_bl)) pss_nil)
    (pss_cons (ps_for PassesOwn.never rfl (pi_str (pv 0)) (pg_name (i := 1) sc_are_figures.nd rfl (.inl rfl)) (pss_one (ps_if (pt_cmpR op_notIn_sign (pv 1) (kGc (by rfl) C.FIGURES) (by rfl)) (pss_one (ps_ret pe_bl)) pss_nil)))
    (pss_one (ps_ret (pe_or (pe_cmpR op_eq (pv 0) pe_str (nomark _)) (pe_one (pe_cmpR op_ne (pe_ix ix_str (pv 0) pe_int (fun _ _ => rfl)) pe_str (nomark _)))))))), ?_⟩
  refine st_if (b := (decide (x = "") || !decide (x.length ≤ 60))) fr ?_ (fun hb H1 G1 e => ?_) (fun hb H1 G1 e => ?_)
  · refine evt_or (evt_test (eqS_ (var_ (by rfl) hx) evd_str rfl)) fun _ => ?_
    refine evt_test (intB_ (lenS_ (var_ (by rfl) hx) (by omega) rfl) evd_int ?_)
    congr 1
    by_cases z : x.length ≤ 60
    · rw [decide_eq_true z]
      exact decide_eq_false (by omega)
    · rw [decide_eq_false z]
      exact decide_eq_true (by omega)
  · walk_at "nx"
    refine st_ret e.fr evd_bl (exq (Φ := PD K (.bool false)) ?_ e)
    have e2 : areFigs x = false := by
      unfold areFigs
      rcases Bool.or_eq_true_iff.mp hb with z | z
      · rw [z]; rfl
      · rw [Bool.not_eq_true'] at z
        rw [z]
        simp
    rw [e2] at q
    exact q
  · walk_at "nx"
    replace hx := dsame hx e.gg
    replace q := exq q e
    obtain ⟨z1, z2⟩ := Bool.or_eq_false_iff.mp hb
    rw [Bool.not_eq_false'] at z2
    have hne : x ≠ "" := fun h => by rw [h] at z1; simp at z1
    refine for_ e.fr (ito_str (K := K) (var_ (by rfl) hx)) fun G2 H2 e2 => ?_
    refine ⟨fun i σ G' H' => Ex .no G2 G' H2 H' ∧ ((sg x).take i).all isFig = true ∧ ∃ a, σ = [some v, a], ⟨Ex.refl e2.fr, rfl, _, rfl⟩, fun i σ G H h => ⟨h.1.gg, h.1.fr.sub⟩, ?_, ?_⟩
    · rintro i φ y σ G3 H3 hi hy ⟨e3, hall, a, rfl⟩
      unfold signsP at hi
      rw [List.getElem?_map] at hi
      obtain ⟨c, hc, rfl⟩ := Option.map_eq_some_iff.mp hi
      refine st_if (b := !isFig c) e3.fr (evt_test (notInTx_ (var_ (by rfl) hy) evd_str rfl)) (fun hb H4 G4 e4 => ?_) (fun hb H4 G4 e4 => ?_)
      · walk_at "nx"
        refine st_ret e4.fr evd_bl (exq (Φ := PD K (.bool false)) ?_ ((e2.trans e3).trans e4))
        have e5 : areFigs x = false := by
          unfold areFigs
          have : (sg x).all isFig = false := by
            rw [List.all_eq_false]
            exact ⟨c, List.mem_of_getElem? hc, by rw [Bool.not_eq_true'] at hb; rw [hb]; decide⟩
          rw [this]
          simp
        rw [e5] at q
        exact q
      · walk_at "nx"
        refine ⟨G4, e3.trans e4, ?_, _, rfl⟩
        rw [take_next hc, List.all_append, hall]
        rw [Bool.not_eq_false'] at hb
        simp [hb]
    · rintro σ G3 H3 ⟨e3, hall, a, rfl⟩
      rw [show (signsP K x.cps.toList).length = (sg x).length by unfold signsP; rw [List.length_map], List.take_length] at hall
      replace hx := dsame hx (e2.trans e3).gg
      have e5 : areFigs x = (decide (x = "0") || !decide ((sg x).head? = some 48)) := by
        unfold areFigs
        rw [z1, z2, hall] <;> rfl
      rw [e5] at q
      walk_at "nx"
      refine st_ret e3.fr (evd_or (eqS_ (var_ (by rfl) hx) evd_str rfl) fun _ => ?_) (exq q (e2.trans e3))
      obtain ⟨c, r, hcr⟩ : ∃ c r, sg x = c :: r := by
        cases hs : sg x with
        | nil => exact absurd (str_ext (y := "") (by rw [hs] <;> rfl)) hne
        | cons c r => exact ⟨c, r, rfl⟩
      refine neS_ (x := ⟨#[c]⟩) (y := "0") (ixS_ (var_ (by rfl) hx) evd_int (by omega) ?_) evd_str ?_
      · show atI (sg x) 0 = some c
        rw [hcr]
        unfold atI ixN
        rw [if_pos (by decide), if_pos (by simp)]
        rfl
      · rw [hcr]
        congr 1
        have : ((⟨#[c]⟩ : Str) = "0") ↔ (c :: r).head? = some 48 := by
          constructor
          · intro h
            have := congrArg sg h
            have e6 : [c] = [48] := this
            rw [List.head?_cons]
            injection e6 with e6
            rw [e6]
          · intro h
            have e6 : c = 48 := Option.some.inj h
            subst e6
            rfl
        rw [decide_eq_decide.mpr this]
theorem ok_read_number (Z : Zs mg) (D_are_figures : Def P w K mg base 1 "are_figures" ["text"] (FnR K 1 R_are_figures)) (A : At K mg "read_number" s_read_number) : Def P w K mg base 2 "read_number" ["text"] (FnR K 1 R_read_number) := by
  refine def_of A sc_read_number (fun _ _ _ _ _ _ us hl => match us, hl with | [_], _ => rfl) (fun vs H Q E h => h.len) fun f cdv A outer s H vs Q E hr h => ?_
  obtain ⟨ds, d, G, hn, ⟨n, hn60, rfl, rfl⟩, fr, hv, q⟩ := h.open
  obtain ⟨v, rfl, hx⟩ := dpall1 hv
  refine ⟨_, (pss_cons (ps_set (i := 1) sc_read_number.nd rfl (.inl rfl) (pv 0))
    (Evl.pss_cut (ps_if (pt_val (pe_m1 PySem.F.slot_str_startswith PySem.F.type_str_startswith mt_startswith (pv 0) pe_str)) (pss_one (ps_set (i := 1) sc_read_number.nd rfl (.inl rfl) (pe_slice sl_str (pv 0) (po_some pe_int) po_none))) pss_nil)
    (pss_cons (ps_if (PW.pt (pw_or (pt_cmpR op_eq (pv 0) pe_str (nomark _)) (pw_or1 (pt_not (pt_val (pe_def D_are_figures hr (by omega) (by rfl) (pa_cons (pv 1) pa_nil))))))) (pss_one ps_never) pss_nil)
    (pss_one (ps_ret (pe_callTy call_int_str (by rfl) Z.int bt_int (pa_cons (pv 0) pa_nil))))))), ?_⟩
  have hlen := numT_len hn60
  refine st_set (Φ := PD K (.str (numT n))) fr (var_ (by rfl) hx) fun v1 H1 G1 e1 p1 => ?_
  refine ⟨fun σ' H' => ∃ G' x2 m, Ex .no G G' H H' ∧ sg x2 = digs m ∧ m < 10 ^ 60 ∧ ∃ u, Dp K G' u (.str x2) ∧ σ' = [some v, some u], ?_, ?_⟩
  · replace hx := dsame hx e1.gg
    refine st_if (b := Txt.startswith (numT n) "-") e1.fr (evt_B (starts_ (var_ (by rfl) hx) evd_str rfl)) (fun hb H2 G2 e2 => ?_) (fun hb H2 G2 e2 => ?_)
    · replace hx := dsame hx e2.gg
      obtain ⟨m, hm⟩ : ∃ m, n = Int.negSucc m := by
        cases n with
        | negSucc m => exact ⟨m, rfl⟩
        | ofNat m =>
          exfalso
          rw [starts1 (c := 45) (by rfl), show Int.ofNat m = (m : Int) from rfl, sg_numT_nat, decide_eq_true_eq] at hb
          have := digs_all m 45 (List.mem_of_mem_head? hb)
          omega
      subst hm
      refine st_set (Φ := PD K (.str (ofL (digs (m + 1))))) e2.fr (slS_ (lo := some 1) (hi := none) (var_ (by rfl) hx) (by omega) (evo_some (K := K) evd_int) evo_none ?_) fun v3 H3 G3 e3 p3 => ?_
      · congr 1
        refine str_ext ?_
        rw [cutS_sg, sg_ofL, sg_numT_neg, show (some (1 : Int)) = some ((1 : Nat) : Int) from rfl, cutD_drop] <;> rfl
      · exact ⟨G3, _, m + 1, (e1.trans e2).trans e3, sg_ofL _, by simpa using hn60, _, p3, rfl⟩
    · walk_at "nx"
      obtain ⟨m, hm⟩ : ∃ m : Nat, n = (m : Int) := by
        cases n with
        | ofNat m => exact ⟨m, rfl⟩
        | negSucc m =>
          exfalso
          rw [starts1 (c := 45) (by rfl), sg_numT_neg] at hb
          simp at hb
      subst hm
      exact ⟨G2, numT m, m, e1.trans e2, sg_numT_nat m, by simpa using hn60, v1, dsame p1 e2.gg, rfl⟩
  · rintro σ' H2 ⟨G2, x2, m, e2, hm, hm60, u, hu, rfl⟩
    walk_at "nx"
    replace hx := dsame hx e2.gg
    refine st_no e2.fr (evt_or_f (evt_test (eqS_ (var_ (by rfl) hx) evd_str ?_)) (tnot_ (evt_B (evd_call (ds := [.str x2]) (eva_cons (var_ (by rfl) hu) eva_nil) (by rfl) ⟨x2, ?_, rfl, rfl⟩)) ?_)) fun H3 G3 e3 => ?_
    · congr 1
      refine decide_eq_false fun h => ?_
      have e5 := congrArg sg h
      have e6 : sg ("-0" : Str) = [45, 48] := rfl
      rw [e6] at e5
      cases n with
      | ofNat k =>
        rw [show Int.ofNat k = (k : Int) from rfl, sg_numT_nat] at e5
        have := digs_all k 45 (by rw [e5]; simp)
        omega
      | negSucc k =>
        rw [sg_numT_neg] at e5
        obtain ⟨c, r, e7, hc⟩ := digs_head (k + 1) (by omega)
        rw [e7] at e5
        injection e5 with _ e5
        injection e5 with e5 _
        exact hc e5
    · rw [len_sg, hm]; have := digs_len hm60; omega
    · rw [areFigs_digs hm hm60] <;> rfl
    · walk_at "nx"
      exact st_ret e3.fr (intTx_ (var_ (by rfl) (dsame hx e3.gg)) (numT_reads hn60) (by omega)) (exq q (e2.trans e3))
theorem ok_show_number (Z : Zs mg) (A : At K mg "show_number" s_show_number) : Def P w K mg base 1 "show_number" ["number"] (FnR K 1 R_show_number) := by
  refine def_of A sc_show_number (fun _ _ _ _ _ _ us hl => match us, hl with | [_], _ => rfl) (fun vs H Q E h => h.len) fun f cdv A outer s H vs Q E hr h => ?_
  obtain ⟨ds, d, G, hn, ⟨n, hn60, rfl, rfl⟩, fr, hv, q⟩ := h.open
  obtain ⟨v, rfl, hx⟩ := dpall1 hv
  refine ⟨_, (pss_one (ps_ret (pe_callTy call_str_int (by rfl) Z.str bt_str (pa_cons (pv 0) pa_nil)))), ?_⟩
  exact st_ret fr (strI_ (var_ (by rfl) hx) (log60 hn60)) q
end
/-! ### spans as texts -/
def endT : Option Int → Str
  | none => ""
  | some n => numT n
def spanT (s : Span) : Str := if s.1 = s.2 ∧ s.1 ≠ none then endT s.1 else endT s.1 ++ ".." ++ endT s.2
structure EndOk (e : Option Int) : Prop where
  sm : ∀ n, e = some n → n.natAbs < 10 ^ 60
structure SpanOk (s : Span) : Prop where
  lo : EndOk s.1
  hi : EndOk s.2
  le : ∀ a b, s.1 = some a → s.2 = some b → a ≤ b
theorem endT_free {e : Option Int} {k : Nat} (h : k ≠ 45 ∧ (k < 48 ∨ 57 < k)) : k ∉ sg (endT e) := by
  cases e with
  | none => exact fun z => by cases z
  | some n => exact numT_free h
theorem endT_len {e : Option Int} (h : EndOk e) : (endT e).length ≤ 61 := by
  cases e with
  | none => exact Nat.zero_le _
  | some n => exact numT_len (h.sm n rfl)
def R_read_end : List PyData → PyData → Prop := fun ds d => ∃ e, EndOk e ∧ ds = [.str (endT e)] ∧ d = endD e
def R_read_span : List PyData → PyData → Prop := fun ds d => ∃ s, SpanOk s ∧ ds = [.str (spanT s)] ∧ d = spanD s
def R_show_span : List PyData → PyData → Prop := fun ds d => ∃ s, SpanOk s ∧ ds = [spanD s] ∧ d = .str (spanT s)
theorem endD_inj {a b : Option Int} (h : endD a = endD b) : a = b := by
  cases a <;> cases b <;> simp [endD] at h ⊢ <;> exact h
theorem endD_eqv (a b : Option Int) : PyData.eqv (endD a) (endD b) = decide (a = b) := by
  have h := eqv_alike (endD_alike a b) (endD_alike a a)
  by_cases e : a = b
  · rw [decide_eq_true e]; exact h.mpr (by rw [e])
  · rw [decide_eq_false e]
    cases q : PyData.eqv (endD a) (endD b) with
    | false => rfl
    | true => exact absurd (endD_inj (h.mp q)) e
section
variable {P : Program} {w : World} {K : PySem.W.Frag} {mg : Str → Option Value} {base : Heap}
theorem ok_read_end (D_read_number : Def P w K mg base 2 "read_number" ["text"] (FnR K 1 R_read_number)) (A : At K mg "read_end" s_read_end) : Def P w K mg base 3 "read_end" ["text"] (FnR K 1 R_read_end) := by
  refine def_of A sc_read_end (fun _ _ _ _ _ _ us hl => match us, hl with | [_], _ => rfl) (fun vs H Q E h => h.len) fun f cdv A outer s H vs Q E hr h => ?_
  obtain ⟨ds, d, G, hn, ⟨en, hen, rfl, rfl⟩, fr, hv, q⟩ := h.open
  obtain ⟨v, rfl, hx⟩ := dpall1 hv
  refine ⟨_, (pss_cons (ps_if (pt_cmpR op_eq (pv 0) pe_str (nomark _)) (pss_one (ps_ret (pe_tup pa_nil))) pss_nil)
    (pss_one (ps_ret (pe_tup (pa_cons (pe_def D_read_number hr (by omega) (by rfl) (pa_cons (pv 0) pa_nil)) pa_nil))))), ?_⟩
  cases en with
  | none =>
    refine st_yes fr (evt_test (eqS_ (var_ (by rfl) hx) evd_str rfl)) fun H1 G1 e => ?_
    walk_at "nx"
    exact st_ret e.fr (evd_tup (ds := []) eva_nil (by decide)) (exq q e)
  | some n =>
    refine st_no fr (evt_test (eqS_ (var_ (by rfl) hx) evd_str ?_)) fun H1 G1 e => ?_
    · congr 1
      refine decide_eq_false fun h => numT_ne n ?_
      have := congrArg sg h
      exact this
    · walk_at "nx"
      exact st_ret e.fr (evd_tup (ds := [.int n]) (eva_cons (evd_call (ds := [.str (numT n)]) (eva_cons (var_ (by rfl) (dsame hx e.gg)) eva_nil) (by rfl) ⟨n, hen.sm n rfl, rfl, rfl⟩) eva_nil) (by simp)) (exq q e)
theorem ok_read_span (D_read_number : Def P w K mg base 2 "read_number" ["text"] (FnR K 1 R_read_number)) (D_read_end : Def P w K mg base 3 "read_end" ["text"] (FnR K 1 R_read_end)) (A : At K mg "read_span" s_read_span) : Def P w K mg base 4 "read_span" ["text"] (FnR K 1 R_read_span) := by
  refine def_of A sc_read_span (fun _ _ _ _ _ _ us hl => match us, hl with | [_], _ => rfl) (fun vs H Q E h => h.len) fun f cdv A outer s H vs Q E hr h => ?_
  obtain ⟨ds, d, G, hn, ⟨sp, hs, rfl, rfl⟩, fr, hv, q⟩ := h.open
  obtain ⟨v, rfl, hx⟩ := dpall1 hv
  refine ⟨_, (pss_cons (ps_asg (pe_partition (pv 0) pe_str) (kPgTup (K := K) (n := 3) rfl rfl (pgs_cons (pg_name (i := 1) sc_read_span.nd rfl (.inl rfl)) (pgs_cons (pg_name (i := 2) sc_read_span.nd rfl (.inl rfl)) (pgs_cons (pg_name (i := 3) sc_read_span.nd rfl (.inl rfl)) pgs_nil)))))
    (pss_cons (ps_if (pt_cmpR op_eq (pv 2) pe_str (nomark _)) (pss_cons (ps_set (i := 4) sc_read_span.nd rfl (.inl rfl) (pe_def D_read_number hr (by omega) (by rfl) (pa_cons (pv 0) pa_nil)))
      (pss_one (ps_ret (pe_tup (pa_cons (pe_tup (pa_cons (pv 4) pa_nil)) (pa_cons (pe_tup (pa_cons (pv 4) pa_nil)) pa_nil)))))) pss_nil)
    (pss_cons (ps_set (i := 5) sc_read_span.nd rfl (.inl rfl) (pe_tup (pa_cons (pe_def D_read_end hr (by omega) (by rfl) (pa_cons (pv 1) pa_nil)) (pa_cons (pe_def D_read_end hr (by omega) (by rfl) (pa_cons (pv 3) pa_nil)) pa_nil))))
    (pss_cons (ps_if (PW.pt (pw_and (pt_cmpR (kNeD (K := K) rfl hr.units) (pe_ix (ixT (K := K) rfl) (pv 5) pe_int (fun _ _ => rfl)) (pe_tup pa_nil) (nomark _)) (pw_and (pt_cmpR (kNeD (K := K) rfl hr.units) (pe_ix (ixT (K := K) rfl) (pv 5) pe_int (fun _ _ => rfl)) (pe_tup pa_nil) (nomark _)) (pw_and1 (pt_cmpR op_ge (pe_ix (ixT (K := K) rfl) (pe_ix (ixT (K := K) rfl) (pv 5) pe_int (fun _ _ => rfl)) pe_int (fun _ _ => rfl)) (pe_ix (ixT (K := K) rfl) (pe_ix (ixT (K := K) rfl) (pv 5) pe_int (fun _ _ => rfl)) pe_int (fun _ _ => rfl)) (nomark _)))))) (pss_one ps_never) pss_nil)
    (pss_one (ps_ret (pv 5))))))), ?_⟩
  have l1 := endT_len hs.lo
  have l2 := endT_len hs.hi
  have hdd : sg (".." : Str) = 46 :: [46] := rfl
  have hlen : (spanT sp).length ≤ 200 := by
    unfold spanT
    split
    · omega
    · rw [len_sg] at l1 l2
      rw [len_sg, sg_app, sg_app, hdd, List.length_append, List.length_append]
      simp only [List.length_cons, List.length_nil]
      omega
  by_cases hc : sp.1 = sp.2 ∧ sp.1 ≠ none
  · obtain ⟨n, hn⟩ : ∃ n, sp.1 = some n := by
      cases h : sp.1 with
      | none => exact absurd h hc.2
      | some n => exact ⟨n, rfl⟩
    have hT : spanT sp = numT n := by
      unfold spanT
      rw [if_pos hc, hn] <;> rfl
    have hS : spanD sp = .tuple [.tuple [.int n], .tuple [.int n]] := by
      unfold spanD
      rw [← hc.1, hn] <;> rfl
    rw [hT] at hx hlen
    rw [hS] at q
    refine st_asg fr (part_ (K := K) (var_ (by rfl) hx) evd_str (by rfl) (by omega) (part_no (c := 46) (ys := [46]) hdd (numT_free (by decide)))) fun y H1 G1 e1 p1 => ?_
    refine g_trip p1 e1.fr.sub fun a b c ha hb hc3 => ?_
    walk_at "nx"
    replace hx := dsame hx e1.gg
    refine st_yes e1.fr (evt_test (eqS_ (var_ (by rfl) hb) evd_str rfl)) fun H2 G2 e2 => ?_
    walk_at "nx"
    replace hx := dsame hx e2.gg
    refine st_set (Φ := PD K (.int n)) e2.fr (evd_call (ds := [.str (numT n)]) (eva_cons (var_ (by rfl) hx) eva_nil) (by rfl) ⟨n, hs.lo.sm n hn, rfl, rfl⟩) fun z H3 G3 e3 p3 => ?_
    walk_at "nx"
    exact st_ret e3.fr (evd_tup (ds := [.tuple [.int n], .tuple [.int n]]) (eva_cons (evd_tup (ds := [.int n]) (eva_cons (var_ (by rfl) p3) eva_nil) (by simp)) (eva_cons (evd_tup (ds := [.int n]) (eva_cons (var_ (by rfl) p3) eva_nil) (by simp)) eva_nil)) (by simp)) (exq q ((e1.trans e2).trans e3))
  · have hT : spanT sp = endT sp.1 ++ ".." ++ endT sp.2 := by
      unfold spanT
      rw [if_neg hc]
    rw [hT] at hx hlen
    refine st_asg fr (part_ (K := K) (var_ (by rfl) hx) evd_str (by rfl) (by omega) (part_at (c := 46) (ys := [46]) (a := sg (endT sp.1)) (b := sg (endT sp.2)) hdd (by rw [sg_app, sg_app]) (endT_free (by decide)))) fun y H1 G1 e1 p1 => ?_
    rw [str_ext (sg_ofL (sg (endT sp.1))), str_ext (sg_ofL (sg (endT sp.2)))] at p1
    refine g_trip p1 e1.fr.sub fun a b c ha hb hc3 => ?_
    walk_at "nx"
    refine st_no e1.fr (evt_test (eqS_ (var_ (by rfl) hb) evd_str rfl)) fun H2 G2 e2 => ?_
    walk_at "nx"
    replace ha := dsame ha e2.gg
    replace hc3 := dsame hc3 e2.gg
    refine st_set (Φ := PD K (spanD sp)) e2.fr (evd_tup (ds := [endD sp.1, endD sp.2]) (eva_cons (evd_call (ds := [.str (endT sp.1)]) (eva_cons (var_ (by rfl) ha) eva_nil) (by rfl) ⟨sp.1, hs.lo, rfl, rfl⟩) (eva_cons (evd_call (ds := [.str (endT sp.2)]) (eva_cons (var_ (by rfl) hc3) eva_nil) (by rfl) ⟨sp.2, hs.hi, rfl, rfl⟩) eva_nil)) (by simp)) fun z H3 G3 e3 p3 => ?_
    walk_at "nx"
    have ix0 : ∀ {G : Hp}, Dp K G z (spanD sp) → EvD .no K (tOp (rIxT K) (tVar 5) (tC (.int 0))) [some v, some a, some b, some c, none, some z] G (endD sp.1) := fun h => evd_ixT (ds := [endD sp.1, endD sp.2]) (var_ (by rfl) h) evd_int rfl
    have ix1 : ∀ {G : Hp}, Dp K G z (spanD sp) → EvD .no K (tOp (rIxT K) (tVar 5) (tC (.int 1))) [some v, some a, some b, some c, none, some z] G (endD sp.2) := fun h => evd_ixT (ds := [endD sp.1, endD sp.2]) (var_ (by rfl) h) evd_int rfl
    refine st_no e3.fr ?_ fun H4 G4 e4 => ?_
    · cases h1 : sp.1 with
      | none =>
        refine evt_and_f (evt_test (neD_ (ix0 p3) (evd_tup (ds := []) eva_nil (by decide)) (endD_shaped _) unit_shaped ?_))
        rw [h1] <;> rfl
      | some m =>
        refine evt_and_t (evt_test (neD_ (ix0 p3) (evd_tup (ds := []) eva_nil (by decide)) (endD_shaped _) unit_shaped (by rw [h1] <;> rfl))) ?_
        cases h2 : sp.2 with
        | none =>
          refine evt_and_f (evt_test (neD_ (ix1 p3) (evd_tup (ds := []) eva_nil (by decide)) (endD_shaped _) unit_shaped ?_))
          rw [h2] <;> rfl
        | some k =>
          refine evt_and_t (evt_test (neD_ (ix1 p3) (evd_tup (ds := []) eva_nil (by decide)) (endD_shaped _) unit_shaped (by rw [h2] <;> rfl))) ?_
          have hle := hs.le m k h1 h2
          have hne : m ≠ k := fun h => hc ⟨by rw [h1, h2, h], by rw [h1]; exact fun z => nomatch z⟩
          have i0 := ix0 p3
          have i1 := ix1 p3
          rw [h1] at i0
          rw [h2] at i1
          exact evt_test (intB_ (evd_ixT (ds := [.int m]) i0 evd_int rfl) (evd_ixT (ds := [.int k]) i1 evd_int rfl) (by
            congr 1
            exact decide_eq_false (by omega)))
    · walk_at "nx"
      exact st_ret e4.fr (var_ (by rfl) (dsame p3 e4.gg)) (exq q (((e1.trans e2).trans e3).trans e4))
def endL : Option Int → List Str
  | none => []
  | some n => [numT n]
theorem join1 (e : Option Int) : Str.join "" (endL e) = endT e := by
  cases e <;> rfl
theorem ok_show_span (D_show_number : Def P w K mg base 1 "show_number" ["number"] (FnR K 1 R_show_number)) (A : At K mg "show_span" s_show_span) : Def P w K mg base 2 "show_span" ["span"] (FnR K 1 R_show_span) := by
  refine def_of A sc_show_span (fun _ _ _ _ _ _ us hl => match us, hl with | [_], _ => rfl) (fun vs H Q E h => h.len) fun f cdv A outer s H vs Q E hr h => ?_
  obtain ⟨ds, d, G, hn, ⟨sp, hs, rfl, rfl⟩, fr, hv, q⟩ := h.open
  obtain ⟨v, rfl, hx⟩ := dpall1 hv
  refine ⟨_, (pss_cons (ps_set (i := 1) sc_show_span.nd rfl (.inl rfl) (pe_join pe_str (pe_lc (own := [("number", 3)]) (g := gName 3) (tt := tYes) rfl sc_show_span.nd (kPiT (K := K) rfl (pe_ix (ixT (K := K) rfl) (pv 0) pe_int (fun _ _ => rfl))) (blkOk_by (N := n_show_span) (sc := (defScope s_show_span)) (by decide +kernel)) (fun _ _ _ _ _ => (pg_name (i := 3) sc_show_span.nd rfl (.inl rfl))) (fun _ _ _ _ _ => pts_nil) (fun _ _ _ _ _ => (pe_def D_show_number hr (by omega) (by rfl) (pa_cons (pv 3) pa_nil))))))
    (pss_cons (ps_set (i := 2) sc_show_span.nd rfl (.inl rfl) (pe_join pe_str (pe_lc (own := [("number", 3)]) (g := gName 3) (tt := tYes) rfl sc_show_span.nd (kPiT (K := K) rfl (pe_ix (ixT (K := K) rfl) (pv 0) pe_int (fun _ _ => rfl))) (blkOk_by (N := n_show_span) (sc := (defScope s_show_span)) (by decide +kernel)) (fun _ _ _ _ _ => (pg_name (i := 3) sc_show_span.nd rfl (.inl rfl))) (fun _ _ _ _ _ => pts_nil) (fun _ _ _ _ _ => (pe_def D_show_number hr (by omega) (by rfl) (pa_cons (pv 3) pa_nil))))))
    (pss_cons (ps_if (PW.pt (pw_and (pt_cmpR (kEqD (K := K) rfl hr.units) (pe_ix (ixT (K := K) rfl) (pv 0) pe_int (fun _ _ => rfl)) (pe_ix (ixT (K := K) rfl) (pv 0) pe_int (fun _ _ => rfl)) (nomark _)) (pw_and1 (pt_cmpR (kNeD (K := K) rfl hr.units) (pe_ix (ixT (K := K) rfl) (pv 0) pe_int (fun _ _ => rfl)) (pe_tup pa_nil) (nomark _))))) (pss_one (ps_ret (pv 1))) pss_nil)
    (pss_one (ps_ret (pe_op op_add_str (pe_op op_add_str (pv 1) pe_str) (pv 2))))))), ?_⟩
  have l1 := endT_len hs.lo
  have l2 := endT_len hs.hi
  have hdd : sg (".." : Str) = 46 :: [46] := rfl
  have ix0 : ∀ {G : Hp} {σ : L2.St}, σ[0]? = some (some v) → Dp K G v (spanD sp) → EvD .no K (tOp (rIxT K) (tVar 0) (tC (.int 0))) σ G (endD sp.1) := fun h0 h => evd_ixT (ds := [endD sp.1, endD sp.2]) (var_ h0 h) evd_int rfl
  have ix1 : ∀ {G : Hp} {σ : L2.St}, σ[0]? = some (some v) → Dp K G v (spanD sp) → EvD .no K (tOp (rIxT K) (tVar 0) (tC (.int 1))) σ G (endD sp.2) := fun h0 h => evd_ixT (ds := [endD sp.1, endD sp.2]) (var_ h0 h) evd_int rfl
  have jn : ∀ {te : TE} {σ : L2.St} {G : Hp} {e : Option Int}, EndOk e → EvD .no K te σ G (endD e) → σ.length = 4 → EvD .no K (tM1 (rJoinTx K) (tC (.str "")) (tLc (iTup K te) (gName 3) tYes (tCall (FnR K 1 R_show_number) [] E0 (tCons (tVar 3) tNil)) [3])) σ G (.str (endT e)) := by
    intro te σ G e he h hl
    refine join_ (ps := endL e) evd_str ?_ ?_ (by rw [join1])
    · have hq : ∀ c : List Int, (∀ n ∈ c, n.natAbs < 10 ^ 60) → EvD .no K te σ G (.tuple (c.map .int)) → c.length ≤ 1 → EvD .no K (tLc (iTup K te) (gName 3) tYes (tCall (FnR K 1 R_show_number) [] E0 (tCons (tVar 3) tNil)) [3]) σ G (.list (c.map fun n => .str (numT n))) := fun c hc h1 h2 => by
        refine lcd1 (bs := c) (by decide) (ito_tupF (bs := c) (enc := .int) h1) (by omega) fun n hn y G1 s1 hy => ?_
        refine evd_call (ds := [.int n]) (eva_cons (var_ (v := y) ?_ hy) eva_nil) (by rfl) ⟨n, hc n hn, rfl, rfl⟩
        rw [List.getElem?_set_self (by rw [wipe_length, hl]; decide)]
      cases e with
      | none => exact hq [] (by simp) h (by simp)
      | some n => exact hq [n] (by intro m hm; rw [List.mem_singleton.mp hm]; exact he.sm n rfl) h (by simp)
    · cases e with
      | none => exact Nat.zero_le _
      | some n =>
        have := numT_len (he.sm n rfl)
        show (numT n).length + 0 + 1 * 0 ≤ 16777216
        omega
  refine st_set fr (jn hs.lo (ix0 (by rfl) hx) (by rfl)) fun a H1 G1 e1 p1 => ?_
  walk_at "nx"
  replace hx := dsame hx e1.gg
  refine st_set e1.fr (jn hs.hi (ix1 (by rfl) hx) (by rfl)) fun b H2 G2 e2 p2 => ?_
  walk_at "nx"
  replace hx := dsame hx e2.gg
  replace p1 := dsame p1 e2.gg
  replace q := exq q (e1.trans e2)
  refine st_if (b := decide (sp.1 = sp.2) && decide (sp.1 ≠ none)) e2.fr (evt_and (evt_test (eqD_ (ix0 (by rfl) hx) (ix1 (by rfl) hx) (endD_shaped _) (endD_shaped _) (by rw [endD_eqv]))) fun _ => evt_test (neD_ (ix0 (by rfl) hx) (evd_tup (ds := []) eva_nil (by decide)) (endD_shaped _) unit_shaped ?_)) (fun hb H3 G3 e3 => ?_) (fun hb H3 G3 e3 => ?_)
  · rw [endD_unit]
    cases sp.1 <;> rfl
  · walk_at "nx"
    rw [Bool.and_eq_true, decide_eq_true_eq, decide_eq_true_eq] at hb
    unfold spanT at q
    rw [if_pos hb] at q
    exact st_ret e3.fr (var_ (by rfl) (dsame p1 e3.gg)) (exq q e3)
  · walk_at "nx"
    have hb' : ¬ (sp.1 = sp.2 ∧ sp.1 ≠ none) := by
      intro h
      rw [decide_eq_true h.1, decide_eq_true h.2] at hb
      cases hb
    unfold spanT at q
    rw [if_neg hb'] at q
    refine st_ret e3.fr (addS_ (addS_ (var_ (by rfl) (dsame p1 e3.gg)) evd_str ?_ rfl) (var_ (by rfl) (dsame p2 e3.gg)) ?_ rfl) (exq q e3)
    · rw [show (".." : Str).length = 2 from rfl]; omega
    · rw [len_sg, sg_app, hdd, List.length_append, ← len_sg]
      simp only [List.length_cons, List.length_nil]
      omega
def R_inner_of : List PyData → PyData → Prop := fun ds d => ∃ (x : Str) (k : Int), x.length ≤ 1000000 ∧ k < 3 ∧ ds = [.str ("[" ++ x ++ "]"), .int k] ∧ d = .str x
theorem ok_inner_of (C : Cs K mg) (A : At K mg "inner_of" s_inner_of) : Def P w K mg base 1 "inner_of" ["text", "deep"] (FnR K 2 R_inner_of) := by
  refine def_of A sc_inner_of (fun _ _ _ _ _ _ us hl => match us, hl with | [_, _], _ => rfl) (fun vs H Q E h => h.len) fun f cdv A outer s H vs Q E hr h => ?_
  obtain ⟨ds, d, G, hn, ⟨x, k, hl, hk, rfl, rfl⟩, fr, hv, q⟩ := h.open
  obtain ⟨u, v, rfl, hx, hv2⟩ := dpall2 hv
  refine ⟨_, (pss_cons (ps_if (PW.pt (pw_or (pt_not (pt_val (pe_m1 PySem.F.slot_str_startswith PySem.F.type_str_startswith mt_startswith (pv 0) pe_str))) (pw_or (pt_not (pt_val (pe_m1 PySem.F.slot_str_endswith PySem.F.type_str_endswith mt_endswith (pv 0) pe_str))) (pw_or1 (pt_cmpR op_eq (pv 1) (kGc (by rfl) C.MOST_ROWS) (nomark _)))))) (pss_one ps_never) pss_nil)
    (pss_one (ps_ret (pe_slice sl_str (pv 0) (po_some pe_int) (po_some (pe_un un_neg pe_int)))))), ?_⟩
  have hs : sg ("[" ++ x ++ "]") = 91 :: (sg x ++ [93]) := by
    rw [sg_app, sg_app] <;> rfl
  have hl2 : ("[" ++ x ++ "]" : Str).length ≤ 1000002 := by
    rw [len_sg, hs]
    rw [len_sg] at hl
    simp only [List.length_cons, List.length_append, List.length_nil]
    omega
  refine st_no fr (evt_or_f (tnot_ (evt_B (starts_ (var_ (by rfl) hx) evd_str rfl)) ?_) (evt_or_f (tnot_ (evt_B (ends_ (var_ (by rfl) hx) evd_str rfl)) ?_) (evt_test (eqI_ (var_ (by rfl) hv2) evd_int ?_)))) fun H1 G1 e1 => ?_
  · rw [starts1 (c := 91) (by rfl), hs]
    simp
  · rw [ends1 (c := 93) (by rfl), hs]
    simp [List.getLast?_cons]
  · congr 1
    exact decide_eq_false (by omega)
  · walk_at "nx"
    refine st_ret e1.fr (slS_ (lo := some 1) (hi := some (-1)) (var_ (by rfl) (dsame hx e1.gg)) (by omega) (evo_some (K := K) evd_int) (evo_some (K := K) (neg_ evd_int rfl)) ?_) (exq q e1)
    congr 1
    refine str_ext ?_
    rw [cutS_sg, hs]
    exact cut_ends _ _ _
end
end Fm
set_option maxHeartbeats 4000000
/-! FmU: cut. -/
namespace Fm
open PySem PySem.Spec PyProof.Rows L2
local macro_rules | `(tactic| walk_at "nx") => `(tactic| try dsimp only [tSeq, tNext])
/-- the brackets pair off from depth d on, no bar at depth 0 -/
def bal : Nat → List Nat → Bool
  | d, [] => decide (d = 0)
  | d, c :: l => if c = 91 then bal (d + 1) l else if c = 93 then (decide (d ≠ 0) && bal (d - 1) l) else if c = 124 ∧ d = 0 then false else bal d l
theorem bal_cons (d c : Nat) (l : List Nat) : bal d (c :: l) = if c = 91 then bal (d + 1) l else if c = 93 then (decide (d ≠ 0) && bal (d - 1) l) else if c = 124 ∧ d = 0 then false else bal d l := rfl
def restL (qs : List Str) : List Nat := qs.flatMap fun q => 124 :: sg q
theorem sg_joinB (p : Str) (qs : List Str) : sg (Str.join "|" (p :: qs)) = sg p ++ restL qs := by
  induction qs generalizing p with
  | nil =>
    show sg p = sg p ++ []
    rw [List.append_nil]
  | cons q r ih =>
    rw [sg_join_cons, ih q]
    show sg p ++ [124] ++ (sg q ++ restL r) = sg p ++ (124 :: sg q ++ restL r)
    simp
/-- where a reader of the text stands: behind i signs -/
structure Stands (x : List Nat) (ps : List Str) (i d bg : Nat) (done : List Str) : Prop where
  ex : ∃ (cur : Str) (a b : List Nat) (qs : List Str), ps = done ++ cur :: qs ∧ sg cur = a ++ b ∧ x.drop i = b ++ restL qs ∧ bg + a.length = i ∧ (x.drop bg).take a.length = a ∧ bal d b = true ∧ ∀ q ∈ qs, bal 0 (sg q) = true
theorem drop_cons_at {x : List Nat} {i c : Nat} {r : List Nat} (h : x.drop i = c :: r) : x[i]? = some c ∧ x.drop (i + 1) = r := by
  have e : (x.drop i)[0]? = some c := by rw [h] <;> rfl
  rw [List.getElem?_drop] at e
  refine ⟨by simpa using e, ?_⟩
  rw [← List.drop_drop, h] <;> rfl
theorem take_more {x a : List Nat} {bg c : Nat} (h : (x.drop bg).take a.length = a) (e : x[bg + a.length]? = some c) : (x.drop bg).take (a ++ [c]).length = a ++ [c] := by
  rw [List.length_append, List.length_singleton, List.take_succ, h, List.getElem?_drop, e] <;> rfl
/-- one sign more -/
theorem Stands.step {x : List Nat} {ps : List Str} {i d bg c : Nat} {done : List Str} (s : Stands x ps i d bg done) (hc : x[i]? = some c) :
    (c = 91 ∧ Stands x ps (i + 1) (d + 1) bg done) ∨ (c = 93 ∧ ∃ e, d = e + 1 ∧ Stands x ps (i + 1) e bg done) ∨
    (c = 124 ∧ d = 0 ∧ ∃ p, (x.drop bg).take (i - bg) = sg p ∧ bg ≤ i ∧ Stands x ps (i + 1) 0 (i + 1) (done ++ [p])) ∨ (c ≠ 91 ∧ c ≠ 93 ∧ ¬ (c = 124 ∧ d = 0) ∧ Stands x ps (i + 1) d bg done) := by
  obtain ⟨cur, a, b, qs, h1, h2, h3, h4, h5, h6, h7⟩ := s.ex
  cases b with
  | nil =>
    have hd : d = 0 := by simpa [bal] using h6
    subst hd
    cases qs with
    | nil =>
      exfalso
      have e : (x.drop i)[0]? = some c := by rw [List.getElem?_drop]; simpa using hc
      rw [h3] at e
      cases e
    | cons q r =>
      rw [List.nil_append, show restL (q :: r) = 124 :: (sg q ++ restL r) from rfl] at h3
      obtain ⟨g1, g2⟩ := drop_cons_at h3
      rw [hc] at g1
      have ec : c = 124 := Option.some.inj g1
      subst ec
      refine .inr (.inr (.inl ⟨rfl, rfl, cur, ?_, by omega, ⟨q, [], sg q, r, by rw [h1, List.append_assoc] <;> rfl, rfl, g2, by simp, rfl, h7 q List.mem_cons_self, fun z hz => h7 z (List.mem_cons_of_mem _ hz)⟩⟩))
      rw [h2, List.append_nil, show i - bg = a.length by omega, h5]
  | cons c' b =>
    rw [List.cons_append] at h3
    obtain ⟨g1, g2⟩ := drop_cons_at h3
    rw [hc] at g1
    have ec : c = c' := Option.some.inj g1
    subst ec
    have h5' := take_more (c := c) h5 (by rw [h4]; exact hc)
    have mk : ∀ e, bal e b = true → Stands x ps (i + 1) e bg done := fun e he => ⟨cur, a ++ [c], b, qs, h1, by rw [h2, List.append_assoc] <;> rfl, g2, by rw [List.length_append, List.length_singleton]; omega, h5', he, h7⟩
    rw [bal_cons] at h6
    by_cases c1 : c = 91
    · rw [if_pos c1] at h6
      exact .inl ⟨c1, mk _ h6⟩
    · rw [if_neg c1] at h6
      by_cases c2 : c = 93
      · rw [if_pos c2] at h6
        rw [Bool.and_eq_true, decide_eq_true_eq] at h6
        exact .inr (.inl ⟨c2, d - 1, by omega, mk _ h6.2⟩)
      · rw [if_neg c2] at h6
        by_cases c3 : c = 124 ∧ d = 0
        · rw [if_pos c3] at h6; cases h6
        · rw [if_neg c3] at h6
          exact .inr (.inr (.inr ⟨c1, c2, c3, mk _ h6⟩))
theorem Stands.done {x : List Nat} {ps : List Str} {d bg : Nat} {dn : List Str} (s : Stands x ps x.length d bg dn) : d = 0 ∧ ∃ p, ps = dn ++ [p] ∧ x.drop bg = sg p := by
  obtain ⟨cur, a, b, qs, h1, h2, h3, h4, h5, h6, h7⟩ := s.ex
  rw [List.drop_length] at h3
  obtain ⟨e1, e2⟩ := List.append_eq_nil_iff.mp h3.symm
  subst e1
  cases qs with
  | cons q r => cases e2
  | nil =>
    refine ⟨by simpa [bal] using h6, cur, h1, ?_⟩
    rw [h2, List.append_nil, ← h5]
    exact (List.take_of_length_le (by rw [List.length_drop]; omega)).symm
theorem Stands.start {ps : List Str} (h : ps ≠ []) (hb : ∀ p ∈ ps, bal 0 (sg p) = true) : Stands (sg (Str.join "|" ps)) ps 0 0 0 [] := by
  cases ps with
  | nil => exact absurd rfl h
  | cons p qs => exact ⟨p, [], sg p, qs, rfl, rfl, by rw [List.drop_zero, sg_joinB], rfl, rfl, hb p List.mem_cons_self, fun q hq => hb q (List.mem_cons_of_mem _ hq)⟩
theorem Stands.few {x : List Nat} {ps : List Str} {i d bg : Nat} {dn : List Str} (s : Stands x ps i d bg dn) : dn.length < ps.length := by
  obtain ⟨cur, a, b, qs, h1, _⟩ := s.ex
  rw [h1]
  simp
def R_cut : List PyData → PyData → Prop := fun ds d => ∃ ps : List Str, ps ≠ [] ∧ (∀ p ∈ ps, bal 0 (sg p) = true) ∧ ps.length ≤ 1000 ∧ (Str.join "|" ps).length ≤ 1000000 ∧ ds = [.str (Str.join "|" ps), .str "|"] ∧ d = .list (ps.map .str)
theorem for_enF {o : Ow} {K : PySem.W.Frag} {ta : TA} {g : TG} {tb : TS} {D : Ends} {σ : L2.St} {G H : Hp} {x : Str} (f : Fr o G H) (h : EvA o ta σ G [PD K (.str x)]) (q : ∀ G1 H1, Ex o G G1 H H1 → ∃ J : Nat → L2.St → Hp → Hp → Prop, J 0 σ G1 H1 ∧ (∀ i σ G H, J i σ G H → Fr o G H) ∧
    (∀ i c v σ G H G' H', (sg x)[i]? = some c → J i σ G H → Ex o G G' H H' → Dp K G' v (.tuple [.int (i : Nat), .str ⟨#[c]⟩]) → g v σ H' fun σ2 H2 => tb { D with nx := fun σ H => ∃ G, J (i + 1) σ G H, ct := fun σ H => ∃ G, J (i + 1) σ G H, bk := D.nx } σ2 H2) ∧ (∀ σ G H, J (sg x).length σ G H → D.nx σ H)) : tFor (iEnS ta) g tb D σ H :=
  h H f _ fun vs H1 G1 e1 p1 => by
    obtain ⟨v, rfl, pv⟩ := allp1 p1
    refine ⟨x, by rw [dp_str pv], ?_⟩
    obtain ⟨J, j0, jf, js, jd⟩ := q G1 H1 e1
    refine for_enS (fun i σ H => ∃ G, J i σ G H) ⟨G1, j0⟩ (fun i c T σ H hc ⟨G2, j⟩ hT => ?_) fun σ H ⟨G2, j⟩ => jd σ G2 H (by rw [← len_sg]; exact j)
    have e2 := Ex.made (u := .tup [.int (i : Nat), .str ⟨#[c]⟩]) (jf i σ G2 H j) hT
    exact js i c (.ref T) σ G2 H _ _ (by rw [show sg x = x.cps.toList from rfl, Array.getElem?_toList]; exact hc) j e2 (Dp.tup (.inl (.inl upd_same)) (.cons (.int _) (.cons (.str _) .nil)))
theorem st_augI {o : Ow} {K : PySem.W.Frag} {te : TE} {D : Ends} {σ : L2.St} {G H : Hp} {i : Nat} {a b : Int} {g : Int → Int → Int} (f : Fr o G H) (hv : σ[i]? = some (some (.int a))) (h : EvD o K te σ G (.int b)) (q : ∀ H1 G1, Ex o G G1 H H1 → D.nx (σ.set i (some (.int (g a b)))) H1) : tAug i te (ipI g) D σ H :=
  ⟨_, hv, h H f _ fun v H1 G1 e p => ⟨a, b, rfl, dp_int p, q H1 G1 e⟩⟩
section
variable {P : Program} {w : World} {K : PySem.W.Frag} {mg : Str → Option Value} {base : Heap}
theorem ok_cut (Z : Zs mg) (A : At K mg "cut" s_cut) : Def P w K mg base 1 "cut" ["text", "sign"] (FnR K 2 R_cut) := by
  refine def_of A sc_cut (fun _ _ _ _ _ _ us hl => match us, hl with | [_, _], _ => rfl) (fun vs H Q E h => h.len) fun f cdv A outer s H vs Q E hr h => ?_
  obtain ⟨ds, d, G, hn, ⟨ps, h0, hb, hpl, hl, rfl, rfl⟩, fr, hv, q⟩ := h.open
  obtain ⟨u, v, rfl, hx, hy⟩ := dpall2 hv
  refine ⟨_, (pss_cons (ps_set (i := 2) sc_cut.nd rfl (.inl rfl) (pe_lst pa_nil))
    (pss_cons (ps_set (i := 3) sc_cut.nd rfl (.inl rfl) pe_int)
    (pss_cons (ps_set (i := 4) sc_cut.nd rfl (.inl rfl) pe_int)
    (pss_cons (ps_for PassesOwn.never rfl (pi_enS (by rfl) Z.enumerate (pa_cons (pv 0) pa_nil)) (kPgTup (K := K) (n := 2) rfl rfl (pgs_cons (pg_name (i := 5) sc_cut.nd rfl (.inl rfl)) (pgs_cons (pg_name (i := 6) sc_cut.nd rfl (.inl rfl)) pgs_nil))) (Evl.pss_cut (ps_if (pt_cmpR op_eq (pv 6) pe_str (nomark _)) (pss_one (ps_aug (i := 3) sc_cut.nd rfl (.inl rfl) pe_int ip_add)) (pss_one (ps_if (pt_cmpR op_eq (pv 6) pe_str (nomark _)) (pss_one (ps_aug (i := 3) sc_cut.nd rfl (.inl rfl) pe_int ip_sub)) (pss_one (ps_if (PW.pt (pw_and (pt_cmpR op_eq (pv 6) (pv 1) (nomark _)) (pw_and1 (pt_cmpR op_eq (pv 3) pe_int (nomark _))))) (pss_cons (ps_expr (kBm (K := K) rfl PySem.F.plainAttrs_list PySem.F.slot_list_append PySem.F.type_list_append mt_append (pv 2) (pa_cons (pe_slice sl_str (pv 0) (po_some (pv 4)) (po_some (pv 5))) pa_nil)))
            (pss_one (ps_set (i := 4) sc_cut.nd rfl (.inl rfl) (pe_op op_add (pv 5) pe_int)))) pss_nil)))))
      (pss_one (ps_if (pt_cmpR op_lt (pv 3) pe_int (nomark _)) (pss_one ps_never) pss_nil))))
    (pss_cons (ps_if (pt_cmpR op_gt (pv 3) pe_int (nomark _)) (pss_one ps_never) pss_nil)
    (pss_one (ps_ret (pe_op op_cat (pv 2) (pe_lst (pa_cons (pe_slice sl_str (pv 0) (po_some (pv 4)) po_none) pa_nil)))))))))), ?_⟩
  generalize hX : Str.join "|" ps = X at hx hl
  refine st_new fr fun p hp e0 => ?_
  have l0 : Loc .no G (upd H p (.lst [])) p [] := Loc.new fr hp
  walk_at "nx"
  refine st_set (Φ := PD K (.int 0)) e0.fr evd_int fun d1 H1 G1 e1 p1 => ?_
  walk_at "nx"
  refine st_set (Φ := PD K (.int 0)) e1.fr evd_int fun d2 H2 G2 e2 p2 => ?_
  walk_at "nx"
  rw [dp_int p1, dp_int p2]
  refine for_enF (x := X) e2.fr (eva_cons (var_ (by rfl) (dsame hx (e1.trans e2).gg)) eva_nil) fun G3 H3 e3 => ?_
  refine ⟨fun i σ G' H' => (∃ acc d bg dn, Lp .no G H G3 G' H' p acc ∧ DpAll K G' acc (dn.map .str) ∧ Stands (sg X) ps i d bg dn ∧ ∃ a b, σ = [some u, some v, some (.ref p), some (.int (d : Nat)), some (.int (bg : Nat)), a, b]), ⟨[], 0, 0, [], ⟨((e0.trans e1).trans e2).trans e3, Same.refl _, ((l0.ex e1).ex e2).ex e3⟩, .nil, ?_, _, _, rfl⟩, fun i σ G H ⟨_, _, _, _, h, _⟩ => h.ex.fr, ?_, ?_⟩
  · rw [← hX]
    exact Stands.start h0 hb
  · rintro i c y σ G4 H4 G5 H5 hc ⟨acc, d, bg, dn, l4, ha, st, a, b, rfl⟩ e5 py
    have l5 := l4.step e5
    refine g_pair py l5.ex.fr.sub fun ai hi hai hhi => ?_
    rw [dp_int hai]
    have hfew := st.few
    have hhi' : Dp K G5 hi (.str ⟨#[c]⟩) := hhi
    have cmp : ∀ (k : Nat) (z : Str), sg z = [k] → PyData.bool (decide ((⟨#[c]⟩ : Str) = z)) = .bool (decide (c = k)) := fun k z hz => by
      congr 1
      refine decide_eq_decide.mpr ⟨fun h => ?_, fun h => ?_⟩
      · have := congrArg sg h
        rw [hz] at this
        injection this
      · refine str_ext ?_
        rw [hz, ← h]
    refine ⟨fun σ6 H6 => ∃ G6 acc6 d6 bg6 dn6, Lp .no G H G3 G6 H6 p acc6 ∧ DpAll K G6 acc6 (dn6.map .str) ∧ Stands (sg X) ps (i + 1) d6 bg6 dn6 ∧ σ6 = [some u, some v, some (.ref p), some (.int (d6 : Nat)), some (.int (bg6 : Nat)), some (.int (i : Nat)), some hi], ?_, ?_⟩
    · rcases st.step hc with ⟨c1, st1⟩ | ⟨c1, e, de, st1⟩ | ⟨c1, de, pc, hpc, hbi, st1⟩ | ⟨n1, n2, n3, st1⟩
      · refine st_yes l5.ex.fr (evt_test (eqS_ (var_ (by rfl) hhi') evd_str (by rw [cmp 91 "[" rfl, decide_eq_true c1]))) fun H6 G6 e6 => ?_
        walk_at "nx"
        refine st_augI (K := K) (a := (d : Nat)) (b := 1) e6.fr (by rfl) evd_int fun H7 G7 e7 => ?_
        exact ⟨G7, acc, d + 1, bg, dn, (l5.step e6).step e7, dasame ha ((e5.trans e6).trans e7).gg, st1, rfl⟩
      · refine st_no l5.ex.fr (evt_test (eqS_ (var_ (by rfl) hhi') evd_str (by rw [cmp 91 "[" rfl, decide_eq_false (by omega)]))) fun H6 G6 e6 => ?_
        walk_at "nx"
        refine st_yes e6.fr (evt_test (eqS_ (var_ (by rfl) (dsame hhi' e6.gg)) evd_str (by rw [cmp 93 "]" rfl, decide_eq_true c1]))) fun H7 G7 e7 => ?_
        walk_at "nx"
        refine st_augI (K := K) (a := (d : Nat)) (b := 1) e7.fr (by rfl) evd_int fun H8 G8 e8 => ?_
        refine ⟨G8, acc, e, bg, dn, ((l5.step e6).step e7).step e8, dasame ha (((e5.trans e6).trans e7).trans e8).gg, st1, ?_⟩
        subst de
        rw [show ((e + 1 : Nat) : Int) - 1 = (e : Int) by omega] <;> rfl
      · refine st_no l5.ex.fr (evt_test (eqS_ (var_ (by rfl) hhi') evd_str (by rw [cmp 91 "[" rfl, decide_eq_false (by omega)]))) fun H6 G6 e6 => ?_
        walk_at "nx"
        refine st_no e6.fr (evt_test (eqS_ (var_ (by rfl) (dsame hhi' e6.gg)) evd_str (by rw [cmp 93 "]" rfl, decide_eq_false (by omega)]))) fun H7 G7 e7 => ?_
        walk_at "nx"
        have g7 := (e5.trans (e6.trans e7)).gg
        have g07 := (l4.ex.trans e5).gg.trans (e6.trans e7).gg
        refine st_yes e7.fr (evt_and_t (evt_test (eqS_ (y := "|") (var_ (by rfl) (dsame hhi' (e6.trans e7).gg)) (var_ (by rfl) (dsame hy g07)) (by rw [cmp 124 "|" rfl, decide_eq_true c1]))) (evt_test (K := K) (eqI_ (var_ (by rfl) (Dp.int _)) evd_int (by subst de; rfl)))) fun H8 G8 e8 => ?_
        walk_at "nx"
        have l8 := ((l5.step e6).step e7).step e8
        refine st_append (Φ := PD K (.str pc)) l8.ex.fr l8.loc (by rw [dalen ha, List.length_map]; omega) (by rfl) (slS_ (x := X) (lo := some (bg : Nat)) (hi := some (i : Nat)) (var_ (by rfl) (dsame hx (g07.trans e8.gg))) (by omega) (evo_some (K := K) (var_ (by rfl) (Dp.int _))) (evo_some (K := K) (var_ (by rfl) (Dp.int _))) ?_) fun z H9 G9 e9 pz fr9 l9 => ?_
        · congr 1
          refine str_ext ?_
          rw [cutS_sg, ← hpc]
          unfold cutD
          rw [HT.sIx_nat, HT.sIx_nat]
          have hil : i < (sg X).length := (List.getElem?_eq_some_iff.mp hc).1
          rw [Nat.min_eq_left (by omega), Nat.min_eq_left (by omega)]
        · walk_at "nx"
          have l10 := (l8.step e9).put hp (acc' := acc ++ [z])
          refine st_set (Φ := PD K (.int ((i : Int) + 1))) l10.ex.fr (intI_ (var_ (by rfl) (Dp.int _)) evd_int rfl) fun k H10 G10 e10 pk => ?_
          refine ⟨G10, _, 0, i + 1, dn ++ [pc], l10.step e10, ?_, st1, ?_⟩
          · rw [List.map_append]
            exact dasame (daapp (dasame ha ((g7.trans e8.gg).trans e9.gg)) (daone pz)) e10.gg
          · rw [dp_int pk, de]
            rfl
      · refine st_no l5.ex.fr (evt_test (eqS_ (var_ (by rfl) hhi') evd_str (by rw [cmp 91 "[" rfl, decide_eq_false n1]))) fun H6 G6 e6 => ?_
        walk_at "nx"
        refine st_no e6.fr (evt_test (eqS_ (var_ (by rfl) (dsame hhi' e6.gg)) evd_str (by rw [cmp 93 "]" rfl, decide_eq_false n2]))) fun H7 G7 e7 => ?_
        walk_at "nx"
        have g07 := (l4.ex.trans e5).gg.trans (e6.trans e7).gg
        refine st_no e7.fr ((evt_and (b := decide (c = 124)) (c := decide (d = 0)) (evt_test (eqS_ (y := "|") (var_ (by rfl) (dsame hhi' (e6.trans e7).gg)) (var_ (by rfl) (dsame hy g07)) (by rw [cmp 124 "|" rfl]))) fun _ => evt_test (K := K) (eqI_ (var_ (by rfl) (Dp.int _)) evd_int ?_)).to ?_) fun H8 G8 e8 => ?_
        · congr 1
          exact decide_eq_decide.mpr Int.natCast_eq_zero
        · rw [← Bool.decide_and]
          exact decide_eq_false n3
        · walk_at "nx"
          exact ⟨G8, acc, d, bg, dn, ((l5.step e6).step e7).step e8, dasame ha ((e5.trans (e6.trans e7)).trans e8).gg, st1, rfl⟩
    · rintro σ6 H6 ⟨G6, acc6, d6, bg6, dn6, l6, ha6, st6, rfl⟩
      walk_at "nx"
      refine st_no l6.ex.fr (evt_test (K := K) (intB_ (var_ (by rfl) (Dp.int _)) evd_int ?_)) fun H7 G7 e7 => ?_
      · exact congrArg PyData.bool (decide_eq_false (by omega))
      · walk_at "nx"
        exact ⟨G7, acc6, d6, bg6, dn6, l6.step e7, dasame ha6 e7.gg, st6, _, _, rfl⟩
  · rintro σ G4 H4 ⟨acc, d, bg, dn, l4, ha, st, a, b, rfl⟩
    obtain ⟨hd, lp, hps, hlp⟩ := st.done
    walk_at "nx"
    refine st_no l4.ex.fr (evt_test (K := K) (intB_ (var_ (by rfl) (Dp.int _)) evd_int ?_)) fun H5 G5 e5 => ?_
    · exact congrArg PyData.bool (decide_eq_false (by omega))
    · walk_at "nx"
      have l5 := l4.step e5
      have e6 := l5.loc.took l5.ex hp
      refine st_ret e6.fr (EvP.nd (catN_ (ds := dn.map .str) (es := [.str lp]) (var_ (by rfl) ⟨p, acc, rfl, upd_same, dasame (dasame ha e5.gg) (Same.new l5.loc.out)⟩) (evn_lst (eva_cons (slS_ (x := X) (lo := some (bg : Nat)) (hi := none) (var_ (by rfl) (dsame hx e6.gg)) (by omega) (evo_some (K := K) (var_ (by rfl) (Dp.int _))) evo_none ?_) eva_nil) (by simp)) ?_)) (exq (Φ := PD K (.list (dn.map .str ++ [.str lp]))) ?_ e6)
      · congr 1
        refine str_ext ?_
        rw [cutS_sg, cutD_drop, hlp]
      · rw [List.length_map]
        have : dn.length ≤ ps.length := by rw [hps]; simp
        simp only [List.length_cons, List.length_nil]
        omega
      · rw [hps, List.map_append] at q
        exact q
end
end Fm
set_option maxHeartbeats 4000000
/-! FmM1: things sorted, each once. -/
namespace Fm
open PySem PySem.Spec PyProof.Rows L2
/-- each once -/
def dd {α : Type} [DecidableEq α] : List α → List α
  | [] => []
  | x :: xs => if x ∈ xs then dd xs else x :: dd xs
section
variable {α : Type} [DecidableEq α]
theorem mem_dd {x : α} : ∀ {l : List α}, x ∈ dd l ↔ x ∈ l
  | [] => Iff.rfl
  | y :: l => by
    rw [dd]
    split
    · rename_i h
      rw [mem_dd (l := l), List.mem_cons]
      exact ⟨.inr, fun z => z.elim (fun e => e ▸ h) id⟩
    · rw [List.mem_cons, List.mem_cons, mem_dd (l := l)]
theorem nd_dd : ∀ (l : List α), (dd l).Nodup
  | [] => List.nodup_nil
  | y :: l => by
    rw [dd]
    split
    · exact nd_dd l
    · rename_i h
      exact List.nodup_cons.mpr ⟨fun z => h (mem_dd.mp z), nd_dd l⟩
theorem dd_nd : ∀ {l : List α}, l.Nodup → dd l = l
  | [], _ => rfl
  | y :: l, h => by
    obtain ⟨h1, h2⟩ := List.nodup_cons.mp h
    rw [dd, if_neg h1, dd_nd h2]
theorem perm_of_mem {l m : List α} (hl : l.Nodup) (hm : m.Nodup) (h : ∀ x, x ∈ l ↔ x ∈ m) : l.Perm m := (List.perm_ext_iff_of_nodup hl hm).mpr h
end
/-- a coding of things as data of one kind -/
structure Enc (α : Type) [DecidableEq α] where
  e : α → PyData
  al : ∀ a b, PySem.W.alike (e a) (e b) = true
  inj : ∀ a b, keyD (e a) = keyD (e b) → a = b
section
variable {α : Type} [DecidableEq α] (E : Enc α)
def Enc.le (a b : α) : Bool := leD (E.e a) (E.e b)
theorem Enc.einj {a b : α} (h : E.e a = E.e b) : a = b := E.inj a b (by rw [h])
theorem Enc.anti {a b : α} (h : E.le a b = true) (g : E.le b a = true) : a = b := E.einj (leD_anti (E.al a b) h g)
theorem Enc.all (l : List α) : PySem.W.AllAlike (l.map E.e) := PySem.W.AllAlike.of E.al
/-- sorted(xs) -/
def Enc.srt (l : List α) : List α := l.mergeSort E.le
/-- sorted(set(xs)) -/
def Enc.ss (l : List α) : List α := E.srt (dd l)
theorem Enc.srt_map (l : List α) : Fm.srt (l.map E.e) = (E.srt l).map E.e := by
  unfold Fm.srt Enc.srt
  rw [leD_eq]
  exact (PySem.W.sort_maps (r := E.le) (s := leD) (l := l) E.e fun _ _ _ _ => rfl).symm
theorem Enc.srt_perm (l : List α) : (E.srt l).Perm l := List.mergeSort_perm l _
theorem Enc.srt_pw (l : List α) : (E.srt l).Pairwise fun a b => E.le a b = true :=
  List.pairwise_mergeSort (le := E.le) (fun a b c => leD_trans (E.e a) (E.e b) (E.e c)) (fun a b => leD_total (E.e a) (E.e b)) l
theorem Enc.srt_one {l m : List α} (h : l.Perm m) : E.srt l = E.srt m :=
  pw_unique (((E.srt_perm l).trans h).trans (E.srt_perm m).symm) (fun a _ b _ => E.anti) (E.srt_pw l) (E.srt_pw m)
theorem Enc.srt_self {l : List α} (h : l.Pairwise fun a b => E.le a b = true) : E.srt l = l :=
  pw_unique (E.srt_perm l) (fun a _ b _ => E.anti) (E.srt_pw l) h
theorem Enc.mem_srt {x : α} {l : List α} : x ∈ E.srt l ↔ x ∈ l := (E.srt_perm l).mem_iff
theorem Enc.mem_ss {x : α} {l : List α} : x ∈ E.ss l ↔ x ∈ l := (E.mem_srt).trans mem_dd
theorem Enc.nd_ss (l : List α) : (E.ss l).Nodup := (E.srt_perm _).nodup_iff.mpr (nd_dd l)
theorem Enc.ss_pw (l : List α) : (E.ss l).Pairwise fun a b => E.le a b = true := E.srt_pw _
theorem Enc.ss_one {l m : List α} (h : ∀ x, x ∈ l ↔ x ∈ m) : E.ss l = E.ss m := E.srt_one (perm_of_mem (nd_dd l) (nd_dd m) fun x => by rw [mem_dd, mem_dd]; exact h x)
theorem Enc.ss_self {l : List α} (h : l.Pairwise fun a b => E.le a b = true) (n : l.Nodup) : E.ss l = l := by
  unfold Enc.ss
  rw [dd_nd n, E.srt_self h]
theorem Enc.len_ss (l : List α) : (E.ss l).length ≤ l.length := by
  have := pigeon _ _ (E.nd_ss l) fun x hx => E.mem_ss.mp hx
  exact this
theorem map_back {es : List PyData} : ∀ {l : List α}, (∀ d ∈ es, d ∈ l.map E.e) → ∃ ks : List α, es = ks.map E.e ∧ ∀ k ∈ ks, k ∈ l := by
  induction es with
  | nil => intro l _; exact ⟨[], rfl, fun k h => by cases h⟩
  | cons d es ih =>
    intro l h
    obtain ⟨ks, e1, e2⟩ := ih fun x hx => h x (List.mem_cons_of_mem _ hx)
    obtain ⟨a, ha, rfl⟩ := List.mem_map.mp (h d List.mem_cons_self)
    refine ⟨a :: ks, by rw [e1] <;> rfl, fun k hk => ?_⟩
    rcases List.mem_cons.mp hk with z | z
    · rw [z]; exact ha
    · exact e2 k z
theorem Enc.uniq {l : List α} {es : List PyData} (u : Uniq (l.map E.e) es) : ∃ ks : List α, es = ks.map E.e ∧ ks.Nodup ∧ ∀ k, k ∈ ks ↔ k ∈ l := by
  obtain ⟨ks, e1, e2⟩ := map_back E u.sub
  subst e1
  have nd := u.nd
  rw [List.map_map] at nd
  refine ⟨ks, rfl, List.Pairwise.of_map _ (fun _ _ hne e => hne (congrArg _ e)) nd, fun k => ⟨e2 k, fun hk => ?_⟩⟩
  have := u.all (E.e k) (List.mem_map.mpr ⟨k, hk, rfl⟩)
  rw [List.map_map] at this
  obtain ⟨k', hk', e⟩ := List.mem_map.mp this
  rw [← E.inj k' k e]
  exact hk'
theorem Enc.sorted_set {l : List α} : ∀ es fs, Uniq (l.map E.e) es → fs.Perm es → Fm.srt fs = (E.ss l).map E.e := by
  intro es fs u p
  obtain ⟨ks, rfl, nd, hm⟩ := E.uniq u
  rw [srt_of_perm (E.all ks) p, E.srt_map]
  congr 1
  exact E.srt_one (perm_of_mem nd (nd_dd l) fun x => by rw [mem_dd]; exact hm x)
theorem Enc.len_set {l : List α} (h : l.Nodup) : ∀ es, Uniq (l.map E.e) es → es.length = l.length := by
  intro es u
  obtain ⟨ks, rfl, nd, hm⟩ := E.uniq u
  rw [List.length_map]
  exact (perm_of_mem nd h hm).length_eq
end
/-- texts -/
def encS : Enc Str where
  e := .str
  al := fun _ _ => rfl
  inj := fun a b h => by
    have h' : NestedKey.text a = NestedKey.text b := h
    injection h'
abbrev sortN (l : List Str) : List Str := encS.ss l
theorem hset_strs {l : List Str} (h : l.length < 64) : Hset (l.map .str) := ⟨by rw [List.length_map]; exact h, .inl ⟨l, rfl⟩⟩
theorem srtb_strs {l : List Str} (h : l.length ≤ 100000) : Srtb (l.map .str) where
  al := encS.all l
  so := PySem.W.Sortable.others fun b => ⟨fun e => (nomatch e), fun xs e => (nomatch e)⟩
  few := by rw [List.length_map]; exact h
  dp := fun d hd => by
    obtain ⟨s, _, rfl⟩ := List.mem_map.mp hd
    exact Nat.zero_le _
end Fm
set_option maxHeartbeats 4000000
/-! FmW: webs. -/
namespace Fm
open PySem PySem.Spec PyProof.Rows L2
local macro_rules | `(tactic| walk_at "nx") => `(tactic| try dsimp only [tSeq, tNext])
abbrev Wb := List (Str × List Str)
def namesW (W : Wb) : List Str := W.map (·.1)
def tupD (t : Str × List Str) : PyData := .tuple [.str t.1, .list (t.2.map .str)]
/-- a web that can be made -/
structure WebIn (W : Wb) : Prop where
  nd : (namesW W).Nodup
  nm : ∀ t ∈ W, isName t.1 = true
  ov : ∀ t ∈ W, ∀ y ∈ t.2, y ∈ namesW W
  few : W.length ≤ 20
  fov : ∀ t ∈ W, t.2.length ≤ 20
  rk : ∃ r : Str → Nat, ∀ t ∈ W, ∀ y ∈ t.2, r y < r t.1
theorem WebIn.name {W : Wb} (h : WebIn W) {y : Str} (hy : y ∈ namesW W) : isName y = true := by
  obtain ⟨t, ht, rfl⟩ := List.mem_map.mp hy
  exact h.nm t ht
theorem isName_len {x : Str} (h : isName x = true) : x.length ≤ 8 := by
  unfold isName at h
  simp only [Bool.and_eq_true, decide_eq_true_eq] at h
  exact h.2.1
theorem isName_let {x : Str} (h : isName x = true) : ∀ c ∈ sg x, 97 ≤ c ∧ c ≤ 122 := by
  unfold isName at h
  simp only [Bool.and_eq_true, decide_eq_true_eq] at h
  intro c hc
  have h2 := List.all_eq_true.mp h.2.2.2 c hc
  unfold isLet at h2
  rw [decide_eq_true_eq] at h2
  have key : ∀ c ∈ sg ("abcdefghijklmnopqrstuvwxyz" : Str), 97 ≤ c ∧ c ≤ 122 := by decide +kernel
  exact key c h2
theorem isName_ok {x : Str} (h : isName x = true) : PyData.strOk x = true := by
  unfold PyData.strOk
  rw [← Array.all_toList, List.all_eq_true]
  intro c hc
  have := isName_let h c hc
  rw [decide_eq_true_eq]
  omega
theorem isName_ne {x : Str} (h : isName x = true) : x ≠ "" := by
  unfold isName at h
  simp only [Bool.and_eq_true, Bool.not_eq_true', decide_eq_false_iff_not] at h
  exact h.1
theorem least_rank (r : Str → Nat) : ∀ (l : List Str), l ≠ [] → ∃ n ∈ l, ∀ y ∈ l, r n ≤ r y
  | [], h => absurd rfl h
  | [x], _ => ⟨x, List.mem_cons_self, fun y hy => by rw [List.mem_singleton.mp hy]; exact Nat.le_refl _⟩
  | x :: z :: l, _ => by
    obtain ⟨n, hn, hm⟩ := least_rank r (z :: l) (by simp)
    by_cases c : r x ≤ r n
    · refine ⟨x, List.mem_cons_self, fun y hy => ?_⟩
      rcases List.mem_cons.mp hy with e | hy
      · rw [e]; exact Nat.le_refl _
      · exact Nat.le_trans c (hm y hy)
    · refine ⟨n, List.mem_cons_of_mem _ hn, fun y hy => ?_⟩
      rcases List.mem_cons.mp hy with e | hy
      · rw [e]; omega
      · exact hm y hy
theorem filter_lt {α : Type} {p : α → Bool} : ∀ {l : List α} {x : α}, x ∈ l → p x = false → (l.filter p).length < l.length
  | y :: l, x, hx, hp => by
    rcases List.mem_cons.mp hx with e | hx
    · subst e
      rw [List.filter_cons_of_neg (by rw [hp]; decide), List.length_cons]
      have := List.length_filter_le p l
      omega
    · have := filter_lt hx hp
      rw [List.filter_cons]
      split
      · rw [List.length_cons, List.length_cons]; omega
      · rw [List.length_cons]; omega
def R_look_at_names : List PyData → PyData → Prop := fun ds d => ∃ W, WebIn W ∧ ds = [.list (W.map tupD)] ∧ d = .none
section
variable {P : Program} {w : World} {K : PySem.W.Frag} {mg : Str → Option Value} {base : Heap}
theorem ok_look_at_names (Z : Zs mg) (D_is_name : Def P w K mg base 1 "is_name" ["thing"] (FnR K 1 R_is_name)) (A : At K mg "look_at_names" s_look_at_names) : Def P w K mg base 2 "look_at_names" ["tuples"] (FnR K 1 R_look_at_names) := by
  refine def_of A sc_look_at_names (fun _ _ _ _ _ _ us hl => match us, hl with | [_], _ => rfl) (fun vs H Q E h => h.len) fun f cdv A outer s H vs Q E hr h => ?_
  obtain ⟨ds, d, G, hn, ⟨W, hW, rfl, rfl⟩, fr, hv, q⟩ := h.open
  obtain ⟨v, rfl, hx⟩ := dpall1 hv
  refine ⟨_, (pss_cons (ps_for PassesOwn.never rfl (kPiL (K := K) rfl (pv 0)) (kPgTup (K := K) (n := 2) rfl rfl (pgs_cons (pg_name (i := 1) sc_look_at_names.nd rfl (.inl rfl)) (pgs_cons (pg_name (i := 2) sc_look_at_names.nd rfl (.inl rfl)) pgs_nil))) (pss_one (ps_if (PW.pt (pw_or (pt_not (pt_val (pe_def D_is_name hr (by omega) (by rfl) (pa_cons (pv 1) pa_nil)))) (pw_or1 (pt_not (pt_val (pe_callB (kAll (K := K) rfl rfl) (by rfl) Z.all bt_all (pa_cons (pe_lc (own := [("one", 4)]) (g := gName 4) (tt := tYes) rfl sc_look_at_names.nd (kPiL (K := K) rfl (pv 2)) (blkOk_by (N := n_look_at_names) (sc := (defScope s_look_at_names)) (by decide +kernel)) (fun _ _ _ _ _ => (pg_name (i := 4) sc_look_at_names.nd rfl (.inl rfl))) (fun _ _ _ _ _ => pts_nil) (fun _ _ _ _ _ => (pe_def D_is_name hr (by omega) (by rfl) (pa_cons (pv 4) pa_nil)))) pa_nil))))))) (pss_one ps_never) pss_nil)))
    (pss_cons (ps_set (i := 3) sc_look_at_names.nd rfl (.inr rfl) (pe_lc (own := [("name", 1), ("over", 2)]) (tt := tYes) rfl sc_look_at_names.nd (kPiL (K := K) rfl (pv 0)) (blkOk_by (N := n_look_at_names) (sc := (defScope s_look_at_names)) (by decide +kernel)) (fun _ _ _ _ _ => (kPgTup (K := K) (n := 2) rfl rfl (pgs_cons (pg_name (i := 1) sc_look_at_names.nd rfl (.inl rfl)) (pgs_cons (pg_name (i := 2) sc_look_at_names.nd rfl (.inl rfl)) pgs_nil)))) (fun _ _ _ _ _ => pts_nil) (fun _ _ _ _ _ => (pv 1))))
    (pss_cons (ps_if (pt_cmpR op_lt (pe_callB (kLenS (K := K) (w := w) rfl rfl) (by rfl) Z.len bt_len (pa_cons (pe_callTy (kSet (K := K) (w := w) rfl rfl rfl (u72 hr)) (by rfl) Z.set bt_set (pa_cons (pv 3) pa_nil)) pa_nil)) (pe_callB (crLen (K := K) rfl) (by rfl) Z.len bt_len (pa_cons (pv 3) pa_nil)) (nomark _)) (pss_one ps_never) pss_nil)
    (pss_one (ps_for PassesOwn.never rfl (kPiL (K := K) rfl (pv 0)) (kPgTup (K := K) (n := 2) rfl rfl (pgs_cons (pg_name (i := 1) sc_look_at_names.nd rfl (.inl rfl)) (pgs_cons (pg_name (i := 2) sc_look_at_names.nd rfl (.inl rfl)) pgs_nil))) (pss_one (ps_if (pt_not (pt_val (pe_callB (kAll (K := K) rfl rfl) (by rfl) Z.all bt_all (pa_cons (pe_lc (own := [("one", 4)]) (g := gName 4) (tt := tYes) rfl sc_look_at_names.nd (kPiL (K := K) rfl (pv 2)) (blkOk_by (N := n_look_at_names) (sc := (defScope s_look_at_names)) (by decide +kernel)) (fun _ _ _ _ _ => (pg_name (i := 4) sc_look_at_names.nd rfl (.inl rfl))) (fun _ _ _ _ _ => pts_nil) (fun _ _ _ _ _ => (pe_cmpR (kIn (K := K) rfl) (pv 4) (pv 3) (by rfl)))) pa_nil)))) (pss_one ps_never) pss_nil))))))), ?_⟩
  have isn : ∀ {σ : L2.St} {G : Hp} {x : Str} {n : Nat} {u : V}, isName x = true → σ[n]? = some (some u) → Dp K G u (.str x) → EvD .no K (tCall (FnR K 1 R_is_name) [] E0 (tCons (tVar n) tNil)) σ G (.bool true) := fun {σ G x n u} h h1 h2 =>
    evd_call (ds := [.str x]) (eva_cons (var_ h1 h2) eva_nil) (by rfl) ⟨x, by have := isName_len h; omega, rfl, by rw [h]⟩
  -- the first loop
  refine for_ fr (ito_listF (bs := W) (enc := tupD) (var_ (by rfl) hx)) fun G1 H1 e1 => ?_
  refine ⟨fun i σ G' H' => Ex .no G1 G' H1 H' ∧ ∃ a b, σ = [some v, a, b, none, none], ⟨Ex.refl e1.fr, _, _, rfl⟩, fun i σ G H h => ⟨h.1.gg, h.1.fr.sub⟩, ?_, ?_⟩
  · rintro i φ y σ G2 H2 hi hy ⟨e2, a, b, rfl⟩
    rw [List.getElem?_map] at hi
    obtain ⟨t, ht, rfl⟩ := Option.map_eq_some_iff.mp hi
    have hm := List.mem_of_getElem? ht
    refine g_pair hy e2.fr.sub fun nv ov hnv hov => ?_
    refine st_no e2.fr (evt_or_f (tnot_ (evt_B (isn (hW.nm t hm) (by rfl) hnv)) rfl) (tnot_ (evt_B (allLc (bs := t.2) (f := fun _ => true) (by decide) (ito_listF (enc := .str) (var_ (by rfl) hov)) ?_ rfl fun y hy2 z G3 s3 hz => isn (hW.name (hW.ov t hm y hy2)) (by rfl) hz)) ?_)) fun H3 G3 e3 => ?_
    · have := hW.fov t hm; omega
    · simp
    · walk_at "nx"
      exact ⟨G3, e2.trans e3, _, _, rfl⟩
  · rintro σ G2 H2 ⟨e2, a, b, rfl⟩
    walk_at "nx"
    -- the names
    have hx2 := dsame hx (e1.trans e2).gg
    refine st_set (Φ := PD K (.list ((namesW W).map .str))) e2.fr ?_ fun nv H3 G3 e3 p3 => ?_
    · unfold namesW
      rw [List.map_map]
      refine lcd2 (bs := W) (Θ1 := fun t => PD K (.str t.1)) (Θ2 := fun t => PD K (.list (t.2.map .str))) (by decide) (by decide) ((ito_listF (bs := W) (enc := tupD) (var_ (by rfl) hx2)).of fun t _ G v p => pt_data.mpr p) (by have := hW.few; omega) fun t ht x y G4 s4 hx4 hy4 => var_ (by rfl) hx4
    · walk_at "nx"
      have hfew := hW.few
      have hnl : (namesW W).length = W.length := by unfold namesW; rw [List.length_map]
      refine st_no e3.fr (evt_test (K := K) (intB_ (lenset_ (ds := (namesW W).map .str) (n := (namesW W).length) (var_ (by rfl) (ps_list p3)) (hset_strs (by omega)) fun es u => encS.len_set hW.nd es u) (lenLD_ (var_ (by rfl) p3) rfl) ?_)) fun H4 G4 e4 => ?_
      · refine congrArg PyData.bool (decide_eq_false ?_)
        rw [List.length_map]
        omega
      · walk_at "nx"
        have e04 := ((e1.trans e2).trans e3).trans e4
        refine for_ e4.fr (ito_listF (bs := W) (enc := tupD) (var_ (by rfl) (dsame hx e04.gg))) fun G5 H5 e5 => ?_
        refine ⟨fun i σ G' H' => Ex .no G5 G' H5 H' ∧ ∃ a b, σ = [some v, a, b, some nv, none], ⟨Ex.refl e5.fr, _, _, rfl⟩, fun i σ G H h => ⟨h.1.gg, h.1.fr.sub⟩, ?_, ?_⟩
        · rintro i φ y σ G6 H6 hi hy ⟨e6, a, b, rfl⟩
          rw [List.getElem?_map] at hi
          obtain ⟨t, ht, rfl⟩ := Option.map_eq_some_iff.mp hi
          have hm := List.mem_of_getElem? ht
          refine g_pair hy e6.fr.sub fun nv2 ov hnv hov => ?_
          have pn := dsame p3 ((e4.trans e5).trans e6).gg
          refine st_no e6.fr (tnot_ (evt_B (allLc (bs := t.2) (f := fun _ => true) (by decide) (ito_listF (enc := .str) (var_ (by rfl) hov)) ?_ rfl fun y hy2 z G7 s7 hz => ?_)) ?_) fun H7 G7 e7 => ?_
          · have := hW.fov t hm; omega
          · exact inL_ (xs := namesW W) (var_ (by rfl) hz) (var_ (by rfl) (dsame pn s7)) (by rw [decide_eq_true (hW.ov t hm y hy2)])
          · simp
          · walk_at "nx"
            exact ⟨G7, e6.trans e7, _, _, rfl⟩
        · rintro σ G6 H6 ⟨e6, a, b, rfl⟩
          exact q _ _ _ ((e04.trans e5).trans e6) Dp.non
end
/-! ### the dict of a web -/
def KW (G : Hp) : List (Key × V) → Wb → Prop
  | [], [] => True
  | kv :: kvs, t :: W => kv.1 = .inr t.1 ∧ (∃ b, kv.2 = .ref b ∧ G b = some (.lst (t.2.map V.str))) ∧ KW G kvs W
  | [], _ :: _ => False
  | _ :: _, [] => False
theorem KW.mono {G G' : Hp} (s : Same G G') : ∀ {kvs : List (Key × V)} {W : Wb}, KW G kvs W → KW G' kvs W
  | [], [], _ => True.intro
  | _ :: _, _ :: _, ⟨a, ⟨b, e, h⟩, t⟩ => ⟨a, ⟨b, e, s b _ h⟩, KW.mono s t⟩
  | [], _ :: _, h => h.elim
  | _ :: _, [], h => h.elim
theorem KW.keys {G : Hp} : ∀ {kvs : List (Key × V)} {W : Wb}, KW G kvs W → kvs.map (fun kv => kV kv.1) = (namesW W).map V.str
  | [], [], _ => rfl
  | kv :: _, t :: _, ⟨a, _, r⟩ => by
    rw [List.map_cons, KW.keys r, a] <;> rfl
  | [], _ :: _, h => h.elim
  | _ :: _, [], h => h.elim
theorem KW.len {G : Hp} : ∀ {kvs : List (Key × V)} {W : Wb}, KW G kvs W → kvs.length = W.length
  | [], [], _ => rfl
  | _ :: _, _ :: _, ⟨_, _, r⟩ => by rw [List.length_cons, List.length_cons, KW.len r]
  | [], _ :: _, h => h.elim
  | _ :: _, [], h => h.elim
theorem KW.get {G : Hp} {x : Str} {ov : List Str} : ∀ {kvs : List (Key × V)} {W : Wb}, KW G kvs W → W.lookup x = some ov → ∃ b, valV kvs (.inr x) = some (.ref b) ∧ G b = some (.lst (ov.map V.str))
  | [], [], _, e => by cases e
  | kv :: _, (y, z) :: _, ⟨a, ⟨b, e1, h⟩, r⟩, e => by
    rw [List.lookup_cons] at e
    by_cases c : x = y
    · subst c
      rw [show (x == x) = true by simp] at e
      cases e
      exact ⟨b, by rw [valV_pos a, e1], h⟩
    · rw [show (x == y) = false by simp [c]] at e
      obtain ⟨b', q1, q2⟩ := KW.get r e
      exact ⟨b', by rw [valV_neg (by rw [a]; exact fun z => c (Sum.inr.inj z).symm)]; exact q1, q2⟩
  | [], _ :: _, h, _ => h.elim
  | _ :: _, [], h, _ => h.elim
theorem KW.no {G : Hp} {x : Str} : ∀ {kvs : List (Key × V)} {W : Wb}, KW G kvs W → x ∉ namesW W → valV kvs (.inr x) = none
  | [], [], _, _ => rfl
  | kv :: _, (y, z) :: W', ⟨a, _, r⟩, e => by
    have e2 : x ≠ y ∧ x ∉ W'.map (·.1) := by
      unfold namesW at e
      rw [List.map_cons, List.mem_cons, not_or] at e
      exact e
    rw [valV_neg (by rw [a]; exact fun z => e2.1 (Sum.inr.inj z).symm)]
    exact KW.no r e2.2
  | [], _ :: _, h, _ => h.elim
  | _ :: _, [], h, _ => h.elim
theorem KW.snoc {G : Hp} {x : Str} {ov : List Str} {b : Addr} (hb : G b = some (.lst (ov.map V.str))) : ∀ {kvs : List (Key × V)} {W : Wb}, KW G kvs W → KW G (kvs ++ [(.inr x, .ref b)]) (W ++ [(x, ov)])
  | [], [], _ => ⟨rfl, ⟨b, rfl, hb⟩, True.intro⟩
  | _ :: _, _ :: _, ⟨a, h, t⟩ => ⟨a, h, KW.snoc hb t⟩
  | [], _ :: _, h => h.elim
  | _ :: _, [], h => h.elim
def PDic (W : Wb) : Pr := ⟨fun G v => ∃ d kvs, v = .ref d ∧ G d = some (.dK kvs) ∧ KW G kvs W, fun s ⟨d, kvs, e, h1, h2⟩ => ⟨d, kvs, e, s d _ h1, h2.mono s⟩⟩
theorem lookup_mem {W : Wb} {x : Str} (h : x ∈ namesW W) : ∃ ov, W.lookup x = some ov ∧ (x, ov) ∈ W := by
  induction W with
  | nil => cases h
  | cons t W ih =>
    obtain ⟨y, z⟩ := t
    by_cases c : x = y
    · subst c
      exact ⟨z, by rw [List.lookup_cons]; simp, List.mem_cons_self⟩
    · rcases List.mem_cons.mp h with e | h
      · exact absurd e c
      · obtain ⟨ov, h1, h2⟩ := ih h
        exact ⟨ov, by rw [List.lookup_cons, show (x == y) = false by simp [c]]; exact h1, List.mem_cons_of_mem _ h2⟩
def overW (W : Wb) (x : Str) : List Str := (W.lookup x).getD []
theorem lookup_over {W : Wb} {x : Str} (h : x ∈ namesW W) : W.lookup x = some (overW W x) := by
  obtain ⟨ov, e, _⟩ := lookup_mem h
  unfold overW
  rw [e] <;> rfl
theorem over_mem {W : Wb} {x : Str} (h : x ∈ namesW W) : (x, overW W x) ∈ W := by
  obtain ⟨ov, e, m⟩ := lookup_mem h
  unfold overW
  rw [e]
  exact m
section
variable {o : Ow} {K : PySem.W.Frag} {σ : L2.St} {G H : Hp} {td ty : TE} {W : Wb} {x : Str}
theorem dget_ (h1 : EvP o td σ G (PDic W)) (h2 : EvD o K ty σ G (.str x)) (hx : x ∈ namesW W) : EvP o (tDGet td ty) σ G (PN K ((overW W x).map .str)) := fun H f Q q =>
  h1 H f _ fun v H1 G1 e1 p1 => (h2.up e1.gg) H1 e1.fr _ fun y H2 G2 e2 p2 => by
    obtain ⟨d, kvs, rfl, hd, hk⟩ := (PDic W).mono e2.gg p1
    obtain ⟨b, g1, g2⟩ := hk.get (lookup_over hx)
    refine ⟨d, .ref b, rfl, ?_, q _ _ _ (e1.trans e2) ⟨b, _, rfl, g2, dpall_of_strs _⟩⟩
    rw [dp_str p2]
    exact .inl ⟨kvs, .inr x, .inl (e2.fr.sub d _ hd), rfl, g1.symm⟩
theorem listD_ (h1 : EvP o td σ G (PDic W)) : EvP o (tCB rListD (tCons td tNil)) σ G (PN K ((namesW W).map .str)) := ev_cb (eva_cons h1 eva_nil) fun G2 H2 xs _ f p Q k => by
  obtain ⟨v, rfl, d, kvs, rfl, hd, hk⟩ := allp1 p
  refine ⟨d, kvs, rfl, f.sub d _ hd, fun y hy => ?_⟩
  have e := Ex.made (u := .lst (kvs.map fun kv => kV kv.1)) f hy
  exact k _ _ _ e ⟨y, _, rfl, upd_same, by rw [hk.keys]; exact dpall_of_strs _⟩
end
/-- a web as the program holds it -/
structure WebOk (W : Wb) : Prop where
  inn : WebIn W
  so : ∀ t ∈ W, sortN t.2 = t.2
theorem nz_strs {l : List Str} (h : ∀ x ∈ l, PyData.strOk x = true) : Nz 1 (.list (l.map .str)) := nz_list fun d hd => by
  obtain ⟨x, hx, rfl⟩ := List.mem_map.mp hd
  exact nz_str (h x hx)
section
variable {P : Program} {w : World} {K : PySem.W.Frag} {mg : Str → Option Value} {base : Heap}
def S_in_rings (K : PySem.W.Frag) : Ow → List Pr → Pr → Prop := fun o Φs Ψ => o = .no ∧ ∃ W, WebIn W ∧ Φs = [PDic W] ∧ Ψ = PD K (.list [])
theorem ok_in_rings (Z : Zs mg) (A : At K mg "in_rings" s_in_rings) : Def P w K mg base 1 "in_rings" ["uppers"] (Fn (S_in_rings K)) := by
  refine def_of A sc_in_rings (fun _ _ _ _ _ _ us hl => match us, hl with | [_], _ => rfl) (fun vs H Q E h => Fn.len (fun o Φs Ψ ⟨_, ss, _, h3, _⟩ => by rw [h3] <;> rfl) h) fun f cdv A outer s H vs Q E hr h => ?_
  obtain ⟨_, _, _, G, ⟨rfl, W, hW, rfl, rfl⟩, fr, hv, q⟩ := h
  obtain ⟨x, rfl, hx⟩ := allp1 hv
  refine ⟨_, (pss_cons (ps_set (i := 1) sc_in_rings.nd rfl (.inr rfl) (pe_callTy (call_list_dK rfl) (by rfl) Z.list bt_list (pa_cons (pv 0) pa_nil)))
    (pss_cons (ps_set (i := 2) sc_in_rings.nd rfl (.inl rfl) pe_bl)
    (pss_cons (ps_while PassesOwn.never (pt_val (pv 2)) (pss_cons (ps_set (i := 3) sc_in_rings.nd rfl (.inr rfl) (pe_lc (own := [("name", 4)]) (g := gName 4) rfl sc_in_rings.nd (kPiL (K := K) rfl (pv 1)) (blkOk_by (N := n_in_rings) (sc := (defScope s_in_rings)) (by decide +kernel)) (fun _ _ _ _ _ => (pg_name (i := 4) sc_in_rings.nd rfl (.inl rfl))) (fun _ _ _ _ _ => (pts_one (pt_not (pt_val (pe_callB (kAny (K := K) rfl rfl) (by rfl) Z.any bt_any (pa_cons (pe_lc (own := [("one", 5)]) (g := gName 5) (tt := tYes) rfl sc_in_rings.nd (kPiL (K := K) rfl (pe_dget (hu_of hr) (pv 0) (pv 4) (fun _ _ => rfl))) (blkOk_by (N := n_in_rings) (sc := (relS { kind := .function, names := [(".0", .local), ("name", .local), ("any", .globalImplicit), ("left", .free), ("uppers", .free)], isGenerator := false, isCoroutine := false } (defScope s_in_rings))) (by decide +kernel)) (fun _ _ _ _ _ => (pg_name (i := 5) sc_in_rings.nd rfl (.inl rfl))) (fun _ _ _ _ _ => pts_nil) (fun _ _ _ _ _ => (pe_cmpR (kIn (K := K) rfl) (pv 5) (pv 1) (by rfl)))) pa_nil)))))) (fun _ _ _ _ _ => (pv 4))))
      (pss_cons (ps_set (i := 1) sc_in_rings.nd rfl (.inr rfl) (pe_lc (own := [("name", 4)]) (g := gName 4) rfl sc_in_rings.nd (kPiL (K := K) rfl (pv 1)) (blkOk_by (N := n_in_rings) (sc := (defScope s_in_rings)) (by decide +kernel)) (fun _ _ _ _ _ => (pg_name (i := 4) sc_in_rings.nd rfl (.inl rfl))) (fun _ _ _ _ _ => (pts_one (pt_cmpR (kNotIn (K := K) rfl) (pv 4) (pv 3) (by rfl)))) (fun _ _ _ _ _ => (pv 4))))
      (pss_one (ps_set (i := 2) sc_in_rings.nd rfl (.inl rfl) (pe_cmpR (kNeD (K := K) rfl hr.units) (pv 3) (pe_lst pa_nil) (nomark _)))))))
    (pss_one (ps_ret (pv 1)))))), ?_⟩
  refine st_set (Φ := PD K (.list ((namesW W).map .str))) fr (EvP.nd (listD_ (var_ (by rfl) hx))) fun v1 H1 G1 e1 p1 => ?_
  walk_at "nx"
  refine st_set (Φ := PD K (.bool true)) e1.fr evd_bl fun v2 H2 G2 e2 p2 => ?_
  walk_at "nx"
  rw [dp_bl p2]
  obtain ⟨r, hrk⟩ := hW.rk
  have hfew := hW.few
  have hnl : (namesW W).length = W.length := by unfold namesW; rw [List.length_map]
  refine ⟨fun m σ H' => ∃ (G' : Hp) (L : List Str) (b : Bool) (lv : V), Ex .no G G' H H' ∧ Dp K G' lv (.list (L.map .str)) ∧ L.length ≤ 20 ∧ (∀ y ∈ L, y ∈ namesW W) ∧ (b = false → L = []) ∧ m = 2 * L.length + (if b = true then 1 else 0) ∧ ∃ (f a c : Option V), σ = [some x, some lv, some (.bl b), f, a, c], ⟨_, G2, namesW W, true, v1, e1.trans e2, dsame p1 e2.gg, by omega, fun _ h => h, (fun z => nomatch z), rfl, _, _, _, rfl⟩, fun m σ H3 ⟨G3, L, b, lv, e3, hL, hLl, hLn, hb, hm, f, a, c, hσ⟩ => ?_⟩
  subst hσ
  refine evt_test (K := K) (var_ (by rfl) (Dp.bl b)) H3 e3.fr _ fun b' H4 G4 e4 z => ?_
  rw [z]
  clear z b'
  cases b with
  | false =>
    refine iteF ?_
    walk_at "nx"
    have := hb rfl
    subst this
    exact st_ret e4.fr (var_ (by rfl) (dsame hL e4.gg)) (exq q (e3.trans e4))
  | true =>
    refine iteT ⟨fun σ' H' => ∃ (G' : Hp) (L' : List Str) (b : Bool) (lv : V), Ex .no G G' H H' ∧ Dp K G' lv (.list (L'.map .str)) ∧ L'.length ≤ 20 ∧ (∀ y ∈ L', y ∈ namesW W) ∧ (b = false → L' = []) ∧ 2 * L'.length + (if b = true then 1 else 0) < 2 * L.length + 1 ∧ ∃ (f a c : Option V), σ' = [some x, some lv, some (.bl b), f, a, c], fun σ' H' ⟨G', L', b, lv, h1, h2, h3, h4, h5, h6, h7⟩ => ⟨_, by rw [hm, if_pos rfl]; exact h6, G', L', b, lv, h1, h2, h3, h4, h5, rfl, h7⟩, ?_⟩
    have e04 := e3.trans e4
    have hL4 := dsame hL e4.gg
    have hx4 := (PDic W).mono e04.gg hx
    -- the free ones
    refine st_set (Φ := PD K (.list ((L.filter fun n => !(overW W n).any fun y => decide (y ∈ L)).map .str))) e4.fr ?_ fun v5 H5 G5 e5 p5 => ?_
    · refine lcf1 (bs := L) (Θ := fun n => PD K (.str n)) (by decide) (ito_listF (enc := .str) (var_ (by rfl) hL4)) (by omega) fun n hn y G6 s6 hy => ⟨?_, fun _ => var_ (by rfl) hy⟩
      refine tnot_ (evt_B (anyLc (bs := overW W n) (Θ := fun y => PD K (.str y)) (f := fun y => decide (y ∈ L)) (by decide) (ito_listF (enc := .str) (EvP.nd (dget_ (var_ (by rfl) ((PDic W).mono s6 hx4)) (var_ (by rfl) hy) (hLn n hn)))) ?_ rfl fun y2 hy2 z G7 s7 hz => inL_ (xs := L) (var_ (by rfl) hz) (var_ (by rfl) (dsame hL4 (s6.trans s7))) rfl)) rfl
      have := hW.fov _ (over_mem (hLn n hn))
      dsimp only at this
      omega
    · walk_at "nx"
      generalize hF : (L.filter fun n => !(overW W n).any fun y => decide (y ∈ L)) = F at p5
      refine st_set (Φ := PD K (.list ((L.filter fun n => !decide (n ∈ F)).map .str))) e5.fr ?_ fun v6 H6 G6 e6 p6 => ?_
      · exact lcf1 (bs := L) (Θ := fun n => PD K (.str n)) (by decide) (ito_listF (enc := .str) (var_ (by rfl) (dsame hL4 e5.gg))) (by omega) fun n hn y G7 s7 hy => ⟨evt_test (notInL_ (xs := F) (var_ (by rfl) hy) (var_ (by rfl) (dsame p5 s7)) rfl), fun _ => var_ (by rfl) hy⟩
      · walk_at "nx"
        have hFs : ∀ y ∈ F, PyData.strOk y = true := fun y hy => by
          rw [← hF] at hy
          exact isName_ok (hW.name (hLn y (List.mem_filter.mp hy).1))
        refine st_set (Φ := PD K (.bool (!F.isEmpty))) e6.fr (neD_ (var_ (by rfl) (dsame p5 e6.gg)) (evd_lst (ds := []) eva_nil (by decide)) ((nz_strs hFs).shaped (by decide)) (by decide) ?_) fun v7 H7 G7 e7 p7 => ?_
        · rw [eqv_nil]
          cases F <;> rfl
        · rw [dp_bl p7]
          refine ⟨G7, L.filter fun n => !decide (n ∈ F), !F.isEmpty, v6, ((e04.trans e5).trans e6).trans e7, dsame p6 e7.gg, Nat.le_trans (List.length_filter_le _ _) hLl, fun y hy => hLn y (List.mem_filter.mp hy).1, fun hz => ?_, ?_, _, _, _, rfl⟩
          · -- none is free: none is left
            have hFe : F = [] := by
              cases F with
              | nil => rfl
              | cons y r => cases hz
            by_cases hLe : L = []
            · rw [hLe] <;> rfl
            · exfalso
              obtain ⟨n, hn, hmin⟩ := least_rank r L hLe
              have : n ∈ F := by
                rw [← hF, List.mem_filter]
                refine ⟨hn, ?_⟩
                rw [Bool.not_eq_true', List.any_eq_false]
                intro y hy hyL
                rw [decide_eq_true_eq] at hyL
                have := hrk _ (over_mem (hLn n hn)) y hy
                dsimp only at this
                exact absurd (hmin y hyL) (by omega)
              rw [hFe] at this
              cases this
          · cases hFc : F with
            | nil =>
              have hLe : L = [] := by
                by_cases hLe : L = []
                · exact hLe
                · exfalso
                  obtain ⟨n, hn, hmin⟩ := least_rank r L hLe
                  have : n ∈ F := by
                    rw [← hF, List.mem_filter]
                    refine ⟨hn, ?_⟩
                    rw [Bool.not_eq_true', List.any_eq_false]
                    intro y hy hyL
                    rw [decide_eq_true_eq] at hyL
                    have := hrk _ (over_mem (hLn n hn)) y hy
                    dsimp only at this
                    exact absurd (hmin y hyL) (by omega)
                  rw [hFc] at this
                  cases this
              rw [hLe]
              decide
            | cons y r2 =>
              have hyL : y ∈ L := by
                have : y ∈ F := by rw [hFc]; exact List.mem_cons_self
                rw [← hF] at this
                exact (List.mem_filter.mp this).1
              have hlt : (L.filter fun n => !decide (n ∈ y :: r2)).length < L.length := by
                refine filter_lt hyL ?_
                simp
              have : (if (!(y :: r2).isEmpty) = true then 1 else 0) = 1 := rfl
              omega
end
end Fm
set_option maxHeartbeats 4000000
/-! FmO: objects and dicts in the frame logic. -/
namespace Fm
open PySem PySem.Spec PyProof.Rows L2
/-- what __init__ is given: (G, H0) before the instance was made -/
def InitP (C : Addr) (S : Ow → List Pr → Pr → Prop) : Sp := fun vs H Q _ => ∃ o Φs Ψ G H0 x dx us, S o Φs Ψ ∧ vs = .ref x :: us ∧ Ex o G G H0 H ∧ H0 x = none ∧ LocU o G H x (.ins C dx []) ∧ AllP Φs G us ∧ ∀ H' G', Ex o G G' H0 H' → Ψ.p G' (.ref x) → Q .non H'
theorem InitP.len {C : Addr} {S : Ow → List Pr → Pr → Prop} {n : Nat} (h : ∀ o Φs Ψ, S o Φs Ψ → Φs.length = n) {vs : List V} {H : Hp} {Q : VK} {E : XK} (p : InitP C S vs H Q E) : vs.length = n + 1 := by
  obtain ⟨o, Φs, Ψ, G, H0, x, dx, us, s, rfl, _, _, _, a, _⟩ := p
  rw [List.length_cons, a.len, h o Φs Ψ s]
section
variable {o : Ow} {K : PySem.W.Frag} {w : World} {σ : L2.St} {G G1 H H1 : Hp} {ta tb tc te tv : TE} {tr : TA} {D : Ends} {n : Nat} {p C dx : Addr} {fs : List (Str × V)} {f m : Str} {Φ Ψ : Pr} {Φs : List Pr} {S : Ow → List Pr → Pr → Prop}
theorem ev_make (h : EvA o tr σ G Φs) (s : S .no Φs Ψ) : EvP o (tMake C (InitP C S) [] E0 tr) σ G Ψ := fun H f Q q =>
  h H f _ fun vs H1 G1 e1 ps x dx hx hd hne => by
    have f1 := e1.fr.no
    have e2 := Ex.aside (u := .own x) f1 hd
    have hx2 : (upd H1 dx (.own x)) x = none := by rw [upd_ne (Ne.symm hne)]; exact hx
    have e3 := Ex.aside (u := .ins C dx []) e2.fr hx2
    exact ⟨.no, Φs, Ψ, G1, H1, x, dx, vs, s, by rw [List.append_nil], e2.trans e3, hx, LocU.new e2.fr hx2, ps, fun H' G' e p => ⟨rfl, q _ H' G' (e1.trans (e.lift e1.fr)) p⟩⟩
theorem ev_meth {E : XK} (h1 : EvP o ta σ G Φ) (hΦ : ∀ G v, Φ.p G v → ∃ a dx fs, v = .ref a ∧ G a = some (.ins C dx fs) ∧ fs.lookup m = none) (h : EvA o tr σ G Φs) (s : S .no (Φ :: Φs) Ψ) : EvP o (tMeth C m (Fn S) [] E ta tr) σ G Ψ := fun H f Q q =>
  h1 H f _ fun v H1 G1 e1 p1 => by
    obtain ⟨a, dx, fs, rfl, ha, hl⟩ := hΦ G1 v p1
    refine ⟨a, dx, fs, rfl, e1.fr.sub a _ ha, hl, (h.up e1.gg) H1 e1.fr _ fun vs H2 G2 e2 ps => ?_⟩
    rw [List.append_nil]
    exact ⟨.no, Φ :: Φs, Ψ, G2, s, e2.fr.no, ⟨Φ.mono e2.gg p1, ps⟩, fun v H3 G3 e3 p => q v H3 G3 ((e1.trans e2).trans (e3.lift e2.fr)) p⟩
theorem fld_ (h : EvP o ta σ G Φ) (hΦ : ∀ G v, Φ.p G v → ∃ a C dx fs u, v = .ref a ∧ G a = some (.ins C dx fs) ∧ Cls K C ∧ NoAttr K C f ∧ fs.lookup f = some u ∧ Ψ.p G u) : EvP o (tFld K ta f) σ G Ψ := fun H fr Q q =>
  h H fr _ fun v H1 G1 e1 p1 => by
    obtain ⟨a, C, dx, fs, u, rfl, ha, c, n, l, pu⟩ := hΦ G1 v p1
    exact ⟨a, C, dx, fs, u, rfl, e1.fr.sub a _ ha, c, n, l, q u H1 G1 e1 pu⟩
/-- the field of an object of ours -/
theorem run_fldL {v : V} {Q : VK} (l : LocU o G H p (.ins C dx fs)) (c : Cls K C) (na : NoAttr K C f) (hv : σ[n]? = some (some (.ref p))) (hl : fs.lookup f = some v) (q : Q v H) : tFld K (tVar n) f σ H Q :=
  ⟨.ref p, hv, p, C, dx, fs, v, rfl, l.at_, c, na, hl, q⟩
/-- p.f = e -/
theorem st_fldL (l : LocU o G H p (.ins C dx fs)) (c : Cls K C) (na : NoAttr K C f) (hf : fs.length < 1000) (hv : σ[n]? = some (some (.ref p))) (h : Runs o G H (tv σ H) Φ)
    (q : ∀ y H1 G1, Ex o G G1 H H1 → Φ.p G1 y → Fr o G1 (upd H1 p (.ins C dx (putF f y fs))) → LocU o G1 (upd H1 p (.ins C dx (putF f y fs))) p (.ins C dx (putF f y fs)) → D.nx σ (upd H1 p (.ins C dx (putF f y fs)))) : sFld K (tVar n) tv f D σ H :=
  h _ fun y H1 G1 e py => by
    have l1 := l.ex e
    exact ⟨.ref p, hv, p, C, dx, fs, rfl, l1.at_, c, na, hf, q y H1 G1 e py (l1.fr_put e.fr) l1.put⟩
theorem evp_runs (h : EvP o te σ G Φ) (f : Fr o G H) : Runs o G H (te σ H) Φ := h H f
/-- sorted(set(..)), the list tracked -/
theorem sortsetN_ {ds rs : List PyData} (h1 : EvP o ta σ G (PSq K ds)) (c : Hset ds) (c2 : Srtb ds) (u : ∀ es fs, Uniq ds es → fs.Perm es → srt fs = rs) : EvP o (tCB (rSortS K w) (tCons (tCB (rSet K w) (tCons ta tNil)) tNil)) σ G (PN K rs) := fun H f Q k =>
  h1 H f _ fun v H2 G2 e ⟨l, xs, ev, hx, hd⟩ => by
    subst ev
    refine ⟨G2, l, xs, ds, rfl, e.fr.sub, hx.imp (Same.lst e.fr.sub) (Same.tup e.fr.sub), hd, c, fun a ys es ha hy un => ?_⟩
    have e2 := Ex.aside (u := SetB w a ys) e.fr ha
    have fewE : es.length ≤ 100000 := by
      have n1 : (es.map keyD).length ≤ (ds.map keyD).length := pigeon _ _ un.nd (fun x hx => by
        obtain ⟨d, hd, rfl⟩ := List.mem_map.mp hx
        exact List.mem_map.mpr ⟨d, un.sub d hd, rfl⟩)
      rw [List.length_map, List.length_map] at n1
      have := c.few
      omega
    refine ⟨G2, a, ys, es, rfl, e2.fr.sub, upd_same, hy, c2.sub un.sub fewE, fun fs zs p hf hz hp => ?_⟩
    rw [u es fs un hf] at hz
    have e3 := Ex.made (u := .lst zs) e2.fr hp
    exact k _ _ _ ((e.trans e2).trans e3) ⟨p, _, rfl, upd_same, dasame hz e3.gg⟩
end
end Fm
set_option maxHeartbeats 4000000
/-! FmW2: the class Web. -/
namespace Fm
open PySem PySem.Spec PyProof.Rows L2
local macro_rules | `(tactic| walk_at "nx") => `(tactic| try dsimp only [tSeq, tNext])
def webOf (W : Wb) : Wb := W.map fun t => (t.1, sortN t.2)
theorem webOf_names (W : Wb) : namesW (webOf W) = namesW W := by
  unfold namesW webOf
  rw [List.map_map]
  rfl
/-- an instance of Web -/
def PWeb (C : Addr) (W : Wb) : Pr := ⟨fun G v => ∃ a dx d, v = .ref a ∧ G a = some (.ins C dx [("uppers", d)]) ∧ (PDic W).p G d, fun s ⟨a, dx, d, e, h1, h2⟩ => ⟨a, dx, d, e, s a _ h1, (PDic W).mono s h2⟩⟩
structure WCls (K : PySem.W.Frag) (C : Addr) : Prop where
  cls : Cls K C
  uppers : NoAttr K C "uppers"
theorem pweb_ins {C : Addr} {W : Wb} {m : Str} (hm : m ≠ "uppers") (G : Hp) (v : V) (h : (PWeb C W).p G v) : ∃ a dx fs, v = .ref a ∧ G a = some (.ins C dx fs) ∧ fs.lookup m = none := by
  obtain ⟨a, dx, d, e, h1, _⟩ := h
  refine ⟨a, dx, _, e, h1, ?_⟩
  rw [List.lookup_cons, show (m == ("uppers" : Str)) = false by simpa using hm] <;> rfl
theorem pweb_fld {K : PySem.W.Frag} {C : Addr} {W : Wb} (hC : WCls K C) (G : Hp) (v : V) (h : (PWeb C W).p G v) : ∃ a C' dx fs u, v = .ref a ∧ G a = some (.ins C' dx fs) ∧ Cls K C' ∧ NoAttr K C' "uppers" ∧ fs.lookup ("uppers" : Str) = some u ∧ (PDic W).p G u := by
  obtain ⟨a, dx, d, e, h1, h2⟩ := h
  exact ⟨a, C, dx, _, d, e, h1, hC.cls, hC.uppers, by rw [List.lookup_cons] <;> rfl, h2⟩
/-- what is above -/
inductive Reach (W : Wb) (x : Str) : Str → Prop
  | refl : Reach W x x
  | step {y z : Str} : Reach W x y → z ∈ overW W y → Reach W x z
open Classical in
noncomputable def below (W : Wb) (x y : Str) : Bool := decide (Reach W x y)
/-- a dict whose keys are the texts that S holds -/
def PKeys (S : Str → Prop) : Pr := ⟨fun G v => ∃ d kvs, v = .ref d ∧ G d = some (.dK kvs) ∧ ∀ y, (valV kvs (.inr y)).isSome = true ↔ S y, fun s ⟨d, kvs, e, h1, h2⟩ => ⟨d, kvs, e, s d _ h1, h2⟩⟩
section
variable {P : Program} {w : World} {K : PySem.W.Frag} {mg : Str → Option Value} {base : Heap} {C : Addr}
def S_look_for_rings (K : PySem.W.Frag) : Ow → List Pr → Pr → Prop := fun o Φs Ψ => o = .no ∧ ∃ W, WebIn W ∧ Φs = [PDic W] ∧ Ψ = PD K .none
theorem ok_look_for_rings (Z : Zs mg) (D_in_rings : Def P w K mg base 1 "in_rings" ["uppers"] (Fn (S_in_rings K))) (A : At K mg "look_for_rings" s_look_for_rings) : Def P w K mg base 2 "look_for_rings" ["uppers"] (Fn (S_look_for_rings K)) := by
  refine def_of A sc_look_for_rings (fun _ _ _ _ _ _ us hl => match us, hl with | [_], _ => rfl) (fun vs H Q E h => Fn.len (fun o Φs Ψ ⟨_, ss, _, h3, _⟩ => by rw [h3] <;> rfl) h) fun f cdv A outer s H vs Q E hr h => ?_
  obtain ⟨_, _, _, G, ⟨rfl, W, hW, rfl, rfl⟩, fr, hv, q⟩ := h
  obtain ⟨x, rfl, hx⟩ := allp1 hv
  refine ⟨_, (pss_cons (ps_set (i := 1) sc_look_for_rings.nd rfl (.inr rfl) (pe_def D_in_rings hr (by omega) (by rfl) (pa_cons (pv 0) pa_nil)))
    (pss_cons (ps_if (pt_cmpR (kEqD (K := K) rfl hr.units) (pv 1) (pe_lst pa_nil) (nomark _)) (pss_one ps_retN) pss_nil)
    (pss_cons ps_never
    (pss_one ps_never)))), ?_⟩
  refine st_set (Φ := PD K (.list [])) fr (ev_call (eva_cons (var_ (by rfl) hx) eva_nil) ⟨rfl, W, hW, rfl, rfl⟩ (.inl rfl)) fun v1 H1 G1 e1 p1 => ?_
  walk_at "nx"
  refine st_yes e1.fr (evt_test (K := K) (eqD_ (r := .bool true) (var_ (by rfl) p1) (evd_lst (ds := []) eva_nil (by decide)) (by rfl) (by rfl) (by rfl))) fun H2 G2 e2 => ?_
  exact q _ _ _ (e1.trans e2) Dp.non
/-! the methods -/
def S_names (K : PySem.W.Frag) (C : Addr) : Ow → List Pr → Pr → Prop := fun o Φs Ψ => o = .no ∧ ∃ W, Φs = [PWeb C W] ∧ Ψ = PN K ((namesW W).map .str)
theorem ok_Web_names (Z : Zs mg) (hC : WCls K C) (A : AtM K C "names" "Web.names" s_Web_names) : MDef P w K mg base 1 C "names" ["self"] (Fn (S_names K C)) := by
  refine mdef_of A sc_Web_names (fun _ _ _ _ _ _ us hl => match us, hl with | [_], _ => rfl) (fun vs H Q E h => Fn.len (fun o Φs Ψ ⟨_, ss, h3, _⟩ => by rw [h3] <;> rfl) h) fun f cdv A outer s H vs Q E hr h => ?_
  obtain ⟨_, _, _, G, ⟨rfl, W, rfl, rfl⟩, fr, hv, q⟩ := h
  obtain ⟨x, rfl, hx⟩ := allp1 hv
  refine ⟨_, (pss_one (ps_ret (pe_callTy (call_list_dK rfl) (by rfl) Z.list bt_list (pa_cons (kFld (K := K) rfl (pv 0) rfl) pa_nil)))), ?_⟩
  exact st_ret fr (listD_ (fld_ (var_ (by rfl) hx) (pweb_fld hC))) q
def S_over (K : PySem.W.Frag) (C : Addr) : Ow → List Pr → Pr → Prop := fun o Φs Ψ => o = .no ∧ ∃ W x, x ∈ namesW W ∧ Φs = [PWeb C W, PD K (.str x)] ∧ Ψ = PN K ((overW W x).map .str)
theorem ok_Web_over (Z : Zs mg) (hC : WCls K C) (A : AtM K C "over" "Web.over" s_Web_over) : MDef P w K mg base 1 C "over" ["self", "name"] (Fn (S_over K C)) := by
  refine mdef_of A sc_Web_over (fun _ _ _ _ _ _ us hl => match us, hl with | [_, _], _ => rfl) (fun vs H Q E h => Fn.len (fun o Φs Ψ ⟨_, W, x, _, h3, _⟩ => by rw [h3] <;> rfl) h) fun f cdv A outer s H vs Q E hr h => ?_
  obtain ⟨_, _, _, G, ⟨rfl, W, n, hn, rfl, rfl⟩, fr, hv, q⟩ := h
  obtain ⟨x, y, rfl, hx, hy⟩ := allp2 hv
  refine ⟨_, (pss_one (ps_ret (pe_callTy (crLst (K := K) rfl) (by rfl) Z.list bt_list (pa_cons (pe_dget (hu_of hr) (kFld (K := K) rfl (pv 0) rfl) (pv 1) (fun _ _ => rfl)) pa_nil)))), ?_⟩
  exact st_ret fr (lstN_ ((dget_ (K := K) (fld_ (var_ (by rfl) hx) (pweb_fld hC)) (var_ (by rfl) hy) hn).imp fun _ _ _ p => ps_list (pn_d p))) q
end
end Fm
set_option maxHeartbeats 4000000
/-! FmW3: Web.__init__. -/
namespace Fm
open PySem PySem.Spec PyProof.Rows L2
local macro_rules | `(tactic| walk_at "nx") => `(tactic| try dsimp only [tSeq, tNext])
theorem webOf_in {W : Wb} (h : WebIn W) : WebIn (webOf W) where
  nd := by rw [webOf_names]; exact h.nd
  nm := fun t ht => by
    obtain ⟨u, hu, rfl⟩ := List.mem_map.mp ht
    exact h.nm u hu
  ov := fun t ht y hy => by
    obtain ⟨u, hu, rfl⟩ := List.mem_map.mp ht
    rw [webOf_names]
    exact h.ov u hu y (encS.mem_ss.mp hy)
  few := by unfold webOf; rw [List.length_map]; exact h.few
  fov := fun t ht => by
    obtain ⟨u, hu, rfl⟩ := List.mem_map.mp ht
    exact Nat.le_trans (encS.len_ss u.2) (h.fov u hu)
  rk := by
    obtain ⟨r, hr⟩ := h.rk
    refine ⟨r, fun t ht y hy => ?_⟩
    obtain ⟨u, hu, rfl⟩ := List.mem_map.mp ht
    exact hr u hu y (encS.mem_ss.mp hy)
theorem Ex.none_back {o : Ow} {G G' H H' : Hp} {p : Addr} (e : Ex o G G' H H') (m : ¬ o.M p) (h : H' p = none) : H p = none := by
  cases z : H p with
  | none => rfl
  | some u => rw [e.keep p u m z] at h; cases h
theorem putK_new {kvs : List (Key × V)} {k : Key} {v : V} (h : valV kvs k = none) : putK kvs k v = kvs ++ [(k, v)] := by
  unfold putK
  rw [valV_any, h]
  rfl
theorem putK_len {kvs : List (Key × V)} {k : Key} {v : V} : (putK kvs k v).length ≤ kvs.length + 1 := by
  unfold putK
  split
  · rw [List.length_map]; omega
  · rw [List.length_append]; exact Nat.le_refl _
section
variable {P : Program} {w : World} {K : PySem.W.Frag} {mg : Str → Option Value} {base : Heap} {C : Addr}
def S_init (K : PySem.W.Frag) (C : Addr) : Ow → List Pr → Pr → Prop := fun o Φs Ψ => o = .no ∧ ∃ W, WebIn W ∧ Φs = [PD K (.list (W.map tupD))] ∧ Ψ = PWeb C (webOf W)
theorem ok_Web_init (Z : Zs mg) (hC : WCls K C) (D_look_at_names : Def P w K mg base 2 "look_at_names" ["tuples"] (FnR K 1 R_look_at_names)) (D_look_for_rings : Def P w K mg base 2 "look_for_rings" ["uppers"] (Fn (S_look_for_rings K)))
    (A : AtI K mg "Web" C "Web.__init__" s_Web_init) : IDef P w K mg base 3 "Web" C ["self", "tuples"] (InitP C (S_init K C)) := by
  refine idef_of A sc_Web_init (fun _ _ _ _ _ _ us hl => match us, hl with | [_, _], _ => rfl) (fun vs H Q E h => InitP.len (n := 1) (fun o Φs Ψ ⟨_, ss, _, h3, _⟩ => by rw [h3] <;> rfl) h) fun f cdv A outer s H vs Q E hr h => ?_
  obtain ⟨_, _, _, G, H0, x, dx, us, ⟨rfl, W, hW, rfl, rfl⟩, rfl, e0, hx0, lx, hv, q⟩ := h
  obtain ⟨t, rfl, ht⟩ := allp1 hv
  refine ⟨_, (pss_cons (ps_expr (pe_def D_look_at_names hr (by omega) (by rfl) (pa_cons (pv 1) pa_nil)))
    (pss_cons (kPsFld (K := K) rfl (pv 0) pe_dnewK rfl)
    (pss_cons (ps_for PassesOwn.never rfl (kPiL (K := K) rfl (pv 1)) (kPgTup (K := K) (n := 2) rfl rfl (pgs_cons (pg_name (i := 2) sc_Web_init.nd rfl (.inl rfl)) (pgs_cons (pg_name (i := 3) sc_Web_init.nd rfl (.inl rfl)) pgs_nil))) (pss_one (ps_dput (hu_of hr) (kFld (K := K) rfl (pv 0) rfl) (pv 2) (pe_callB (kSortS (K := K) (w := w) rfl rfl rfl hr.units) (by rfl) Z.sorted bt_sorted (pa_cons (pe_callTy (kSet (K := K) (w := w) rfl rfl rfl (u72 hr)) (by rfl) Z.set bt_set (pa_cons (pv 3) pa_nil)) pa_nil)) rfl)))
    (pss_one (ps_expr (pe_def D_look_for_rings hr (by omega) (by rfl) (pa_cons (kFld (K := K) rfl (pv 0) rfl) pa_nil))))))), ?_⟩
  refine st_expr (Φ := PD K .none) e0.fr (evd_call (ds := [.list (W.map tupD)]) (eva_cons (var_ (by rfl) ht) eva_nil) (by rfl) ⟨W, hW, rfl, rfl⟩) fun v1 H1 G1 e1 _ => ?_
  walk_at "nx"
  intro p hp
  have eA : Ex .no G1 G1 H1 (upd H1 p (.dK [])) := Ex.aside e1.fr hp
  have lx2 := (lx.ex e1).ex eA
  have ld2 : LocU .no G1 (upd H1 p (.dK [])) p (.dK []) := LocU.new e1.fr hp
  have hpx : p ≠ x := fun z => by
    have := (lx.ex e1).at_
    rw [← z, hp] at this; cases this
  refine ⟨.ref x, by rfl, x, C, dx, [], rfl, lx2.at_, hC.cls, hC.uppers, by decide, ?_⟩
  have E3 := ((e0.trans e1).trans eA).wrote (u := .ins C dx [("uppers", .ref p)]) hx0 lx2.out lx2.own
  have hp0 : H0 p = none := (e0.trans e1).none_back (fun z => z) hp
  have lx3 : LocU .no G1 _ x (.ins C dx [("uppers", .ref p)]) := lx2.put
  have ld3 : LocU .no G1 (upd (upd H1 p (.dK [])) x (.ins C dx [("uppers", .ref p)])) p (.dK []) := ld2.other hpx
  walk_at "nx"
  refine for_ E3.fr (ito_listF (bs := W) (enc := tupD) (var_ (by rfl) (dsame ht (e0.trans e1).gg))) fun G4 H4 e4 => ?_
  have hfew := hW.few
  refine ⟨fun i σ G' H' => Ex .no G G' H0 H' ∧ Same G4 G' ∧ LocU .no G' H' x (.ins C dx [("uppers", .ref p)]) ∧ (∃ kvs, LocU .no G' H' p (.dK kvs) ∧ KW G' kvs ((webOf W).take i)) ∧ ∃ a b : Option V, σ = [some (.ref x), some t, a, b],
    ⟨E3.trans e4, Same.refl _, lx3.ex e4, ⟨[], ld3.ex e4, by rw [List.take_zero]; exact True.intro⟩, _, _, rfl⟩, fun i σ G H h => ⟨h.2.1, h.1.fr.sub⟩, ?_, ?_⟩
  · rintro i φ y σ G5 H5 hi hy ⟨e5, s5, l5, ⟨kvs, d5, k5⟩, a, b, rfl⟩
    rw [List.getElem?_map] at hi
    obtain ⟨u, hu, rfl⟩ := Option.map_eq_some_iff.mp hi
    have hm := List.mem_of_getElem? hu
    have hil : i < W.length := (List.getElem?_eq_some_iff.mp hu).1
    refine g_pair hy e5.fr.sub fun nv ov hnv hov => ?_
    have hfo := hW.fov u hm
    refine sortsetN_ (var_ (by rfl) (ps_list hov)) (hset_strs (by omega)) (srtb_strs (by omega)) encS.sorted_set H5 e5.fr _ fun v6 H6 G6 e6 ⟨bb, xs, ev, hb, hd⟩ => ?_
    subst ev
    have l6 := l5.ex e6
    have d6 := d5.ex e6
    have hxs : xs = (sortN u.2).map V.str := dpall_strs hd
    subst hxs
    refine run_fldL l6 hC.cls hC.uppers (by rfl) (by rfl) ⟨nv, by rfl, p, upd H6 p (.dK (putK kvs (.inr u.1) (.ref bb))), rfl, ?_, ?_⟩
    · rw [dp_str hnv]
      refine DPut.k (k := .inr u.1) d6.at_ ?_
      rw [sizeLine_eq, k5.len, List.length_take]
      unfold webOf
      rw [List.length_map]
      omega
    · have hno : u.1 ∉ namesW ((webOf W).take i) := by
        have nd := hW.nd
        rw [show namesW ((webOf W).take i) = (namesW W).take i by rw [← webOf_names W]; unfold namesW; rw [List.map_take]]
        intro z
        have hu2 : (namesW W)[i]? = some u.1 := by unfold namesW; rw [List.getElem?_map, hu] <;> rfl
        rw [← List.take_append_drop i (namesW W)] at nd
        obtain ⟨_, _, n3⟩ := List.nodup_append.mp nd
        refine n3 _ z u.1 ?_ rfl
        refine List.mem_of_getElem? (i := 0) ?_
        rw [List.getElem?_drop]
        exact hu2
      rw [putK_new (k5.no hno)]
      refine ⟨G6, (e5.trans e6).wrote hp0 d6.out d6.own, s5.trans e6.gg, l6.other (Ne.symm hpx), ⟨_, d6.put, ?_⟩, _, _, rfl⟩
      have hu3 : (webOf W)[i]? = some (u.1, sortN u.2) := by unfold webOf; rw [List.getElem?_map, hu] <;> rfl
      rw [List.take_add_one, hu3]
      exact KW.snoc hb (k5.mono e6.gg)
  · rintro σ G5 H5 ⟨e5, s5, l5, ⟨kvs, d5, k5⟩, a, b, rfl⟩
    rw [List.length_map, show W.length = (webOf W).length by unfold webOf; rw [List.length_map], List.take_length] at k5
    have E6 := e5.took hp0 d5.out d5.own d5.at_
    have out6 : (upd G5 p (.dK kvs)) x = none := by rw [upd_ne (Ne.symm hpx)]; exact l5.out
    have E7 := E6.took hx0 out6 l5.own l5.at_
    have pw : (PWeb C (webOf W)).p (upd (upd G5 p (.dK kvs)) x (.ins C dx [("uppers", .ref p)])) (.ref x) := by
      refine ⟨x, dx, .ref p, rfl, upd_same, p, kvs, rfl, ?_, k5.mono ((Same.new d5.out).trans (Same.new out6))⟩
      rw [upd_ne hpx, upd_same]
    walk_at "nx"
    exact st_expr (Φ := PD K .none) E7.fr (ev_call (eva_cons (fld_ (Φ := PWeb C (webOf W)) (var_ (by rfl) pw) (pweb_fld hC)) eva_nil) ⟨rfl, webOf W, webOf_in hW, rfl, rfl⟩ (.inl rfl)) fun v8 H8 G8 e8 _ => q _ _ (E7.trans e8) ((PWeb C (webOf W)).mono e8.gg pw)
end
end Fm
set_option maxHeartbeats 4000000
/-! FmW4: Web.above, beneath, tops. -/
namespace Fm
open PySem PySem.Spec PyProof.Rows L2
local macro_rules | `(tactic| walk_at "nx") => `(tactic| try dsimp only [tSeq, tNext])
/-- the keys of found -/
def KS (kvs : List (Key × V)) (ks : List Str) : Prop := kvs.map (·.1) = ks.map Sum.inr
theorem KS.some {kvs : List (Key × V)} {ks : List Str} (h : KS kvs ks) (y : Str) : (valV kvs (.inr y)).isSome = decide (y ∈ ks) := by
  rw [← valV_any]
  have e : (kvs.any fun kv => decide (kv.1 = .inr y)) = (kvs.map (·.1)).any fun k => decide (k = .inr y) := by rw [List.any_map] <;> rfl
  rw [e, show kvs.map (·.1) = ks.map Sum.inr from h, List.any_map]
  by_cases c : y ∈ ks
  · rw [decide_eq_true c, List.any_eq_true]
    exact ⟨y, c, by simp⟩
  · rw [decide_eq_false c, List.any_eq_false]
    intro z hz
    simp only [Function.comp, decide_eq_true_eq, Sum.inr.injEq]
    exact fun e => c (e ▸ hz)
theorem KS.put {kvs : List (Key × V)} {ks : List Str} {y : Str} {v : V} (h : KS kvs ks) (hy : y ∉ ks) : KS (putK kvs (.inr y) v) (ks ++ [y]) := by
  have e : valV kvs (.inr y) = none := by
    have := h.some y
    rw [decide_eq_false hy] at this
    cases z : valV kvs (.inr y) with
    | none => rfl
    | some u => rw [z] at this; cases this
  rw [putK_new e]
  unfold KS at h ⊢
  rw [List.map_append, List.map_append, h]
  rfl
theorem KS.len {kvs : List (Key × V)} {ks : List Str} (h : KS kvs ks) : kvs.length = ks.length := by
  have := congrArg List.length h
  rwa [List.length_map, List.length_map] at this
theorem over_in {W : Wb} (hW : WebIn W) {x y : Str} (hx : x ∈ namesW W) (hy : y ∈ overW W x) : y ∈ namesW W := hW.ov _ (over_mem hx) y hy
/-- found and pile -/
structure Seek (W : Wb) (x : Str) (ks ps : List Str) : Prop where
  nd : ks.Nodup
  sub : ∀ y ∈ ks, y ∈ namesW W
  ps_in : ∀ y ∈ ps, y ∈ ks
  re : ∀ y ∈ ks, Reach W x y
  me : x ∈ ks
  le : ps.length ≤ ks.length
theorem Seek.few {W : Wb} {x : Str} {ks ps : List Str} (h : Seek W x ks ps) (hW : WebIn W) : ks.length ≤ W.length := by
  have := pigeon _ _ h.nd h.sub
  unfold namesW at this
  rwa [List.length_map] at this
theorem below_iff {W : Wb} {x y : Str} : below W x y = true ↔ Reach W x y := by
  classical
  unfold below
  exact decide_eq_true_iff
theorem reach_in {W : Wb} (hW : WebIn W) {x y : Str} (hx : x ∈ namesW W) (h : Reach W x y) : y ∈ namesW W := by
  induction h with
  | refl => exact hx
  | step _ hz ih => exact over_in hW ih hz
section
variable {P : Program} {w : World} {K : PySem.W.Frag} {mg : Str → Option Value} {base : Heap} {C : Addr}
def S_above (K : PySem.W.Frag) (C : Addr) : Ow → List Pr → Pr → Prop := fun o Φs Ψ => o = .no ∧ ∃ W x, WebIn W ∧ x ∈ namesW W ∧ Φs = [PWeb C W, PD K (.str x)] ∧ Ψ = PKeys (Reach W x)
theorem ok_Web_above (Z : Zs mg) (hC : WCls K C) (A : AtM K C "above" "Web.above" s_Web_above) : MDef P w K mg base 1 C "above" ["self", "name"] (Fn (S_above K C)) := by
  refine mdef_of A sc_Web_above (fun _ _ _ _ _ _ us hl => match us, hl with | [_, _], _ => rfl) (fun vs H Q E h => Fn.len (fun o Φs Ψ ⟨_, W, x, _, _, h3, _⟩ => by rw [h3] <;> rfl) h) fun f cdv A outer s H vs Q E hr h => ?_
  obtain ⟨_, _, _, G, ⟨rfl, W, n, hW, hn, rfl, rfl⟩, fr, hv, q⟩ := h
  obtain ⟨x, y, rfl, hx, hy⟩ := allp2 hv
  refine ⟨_, (pss_cons (ps_set (i := 2) sc_Web_above.nd rfl (.inl rfl) (pe_disp (pps_cons (pv 1) pe_non pps_nil) (by rfl) (by rfl) (by simp) (by decide)))
    (pss_cons (ps_set (i := 3) sc_Web_above.nd rfl (.inl rfl) (pe_lst (pa_cons (pv 1) pa_nil)))
    (pss_cons (ps_while PassesOwn.never (pt_cmpR (kNeD (K := K) rfl hr.units) (pv 3) (pe_lst pa_nil) (nomark _)) (pss_cons (ps_set (i := 4) sc_Web_above.nd rfl (.inl rfl) (kBm0 (K := K) rfl PySem.F.plainAttrs_list PySem.F.slot_list_pop PySem.F.type_list_pop mt_pop (pv 3)))
      (pss_one (ps_for PassesOwn.never rfl (kPiL (K := K) rfl (pe_dget (hu_of hr) (kFld (K := K) rfl (pv 0) rfl) (pv 4) (fun _ _ => rfl))) (pg_name (i := 5) sc_Web_above.nd rfl (.inl rfl)) (pss_one (ps_if (pt_cmp (pc_dnotin (hu_of hr) (pv 5) (pv 2)) (by rfl)) (pss_cons (ps_dput (hu_of hr) (pv 2) (pv 5) (pv 4) rfl)
          (pss_one (ps_expr (kBm (K := K) rfl PySem.F.plainAttrs_list PySem.F.slot_list_append PySem.F.type_list_append mt_append (pv 3) (pa_cons (pv 5) pa_nil))))) pss_nil))))))
    (pss_one (ps_ret (pv 2)))))), ?_⟩
  have hyn : y = .str n := dp_str hy
  subst hyn
  intro p hp
  refine ⟨.str n, by rfl, ⟨upd_same, [(.inr n, .non)], rfl, (by show 1 ≤ 15; decide), ?_⟩⟩
  have e0 : mergeK [] [((.inr n : Key), V.non)] = [(.inr n, .non)] := by rfl
  rw [e0]
  have eA : Ex .no G G H (upd (upd H p (.dK [])) p (.dK [(.inr n, .non)])) := (Ex.aside fr hp).wrote hp (LocU.new fr hp (u := .dK [])).out (fun z => z)
  generalize hH1 : upd (upd H p (.dK [])) p (.dK [(.inr n, .non)]) = H1 at eA ⊢
  have ld1 : LocU .no G H1 p (.dK [(.inr n, .non)]) := by rw [← hH1]; exact (LocU.new fr hp (u := .dK [])).put
  walk_at "nx"
  refine ⟨.str n, by rfl, (by show 1 ≤ sizeLine; rw [sizeLine_eq]; decide), fun r hr1 => ?_⟩
  have hr0 : H r = none := eA.none_back (fun z => z) hr1
  have eB : Ex .no G G H (upd H1 r (.lst [.str n])) := eA.trans (Ex.aside eA.fr hr1)
  have lp2 : Loc .no G (upd H1 r (.lst [.str n])) r [.str n] := Loc.new eA.fr hr1
  have ld2 : LocU .no G (upd H1 r (.lst [.str n])) p (.dK [(.inr n, .non)]) := ld1.ex (Ex.aside eA.fr hr1)
  generalize hH2 : upd H1 r (.lst [.str n]) = H2 at eB lp2 ld2 ⊢
  have hpr : p ≠ r := fun z => by
    have := ld1.at_
    rw [z, hr1] at this; cases this
  walk_at "nx"
  have hfew := hW.few
  refine ⟨fun m σ H' => ∃ (G' : Hp) (kvs : List (Key × V)) (ks ps : List Str), Ex .no G G' H H' ∧ LocU .no G' H' p (.dK kvs) ∧ Loc .no G' H' r (ps.map V.str) ∧ KS kvs ks ∧ Seek W n ks ps ∧ (∀ y ∈ ks, y ∉ ps → ∀ u ∈ overW W y, u ∈ ks) ∧ m + 2 * ks.length = 2 * W.length + ps.length ∧ ∃ a b : Option V, σ = [some x, some (.str n), some (.ref p), some (.ref r), a, b],
    ⟨2 * W.length - 1, G, [(.inr n, .non)], [n], [n], eB, ld2, lp2, rfl, ⟨by simp, fun y hy => by rw [List.mem_singleton.mp hy]; exact hn, fun y hy => hy, fun y hy => by rw [List.mem_singleton.mp hy]; exact .refl, List.mem_singleton.mpr rfl, Nat.le_refl _⟩, fun y hy hy2 => absurd hy hy2, ?_, _, _, rfl⟩, ?_⟩
  · have h20 : 0 < W.length := by
      obtain ⟨t, ht, _⟩ := List.mem_map.mp hn
      exact List.length_pos_of_mem ht
    show (2 * W.length - 1) + 2 * 1 = 2 * W.length + 1
    omega
  · rintro m σ H3 ⟨G3, kvs, ks, ps, e3, d3, l3, k3, sk, cl, hm, a, b, rfl⟩
    have hsk := sk.few hW
    refine EvB.seen (B := fun c => c = !ps.isEmpty) (evt_test (K := K) (neD_ (d := .list (ps.map .str)) (e := .list []) (var_ (by rfl) (Dp.lst (.inl (.inl upd_same)) (dpall_of_strs ps))) (evd_lst (ds := []) eva_nil (by decide)) ?_ (by rfl) ?_)) l3 e3.fr _ fun b' H4 G4 e4 z => ?_
    · exact (nz_strs fun y hy => isName_ok (hW.name (sk.sub y (sk.ps_in y hy)))).shaped (by decide)
    · rw [eqv_nil]
      cases ps <;> rfl
    rw [z]
    clear z b'
    have e04 := e3.trans e4
    have d4 := d3.ex e4
    have l4 := l3.ex e4
    rcases List.eq_nil_or_concat ps with hps | ⟨ps', h0, hps⟩
    · subst hps
      refine iteF ?_
      walk_at "nx"
      have hp0 := hp
      refine st_ret (Φ := PKeys (Reach W n)) (e04.took hp d4.out d4.own d4.at_).fr (var_ (by rfl) ⟨p, kvs, rfl, upd_same, fun y => ?_⟩) (exq q (e04.took hp d4.out d4.own d4.at_))
      rw [k3.some y, decide_eq_true_eq]
      refine ⟨sk.re y, fun hy => ?_⟩
      induction hy with
      | refl => exact sk.me
      | step _ hz ih => exact cl _ ih (by simp) _ hz
    · rw [List.concat_eq_append] at hps
      subst hps
      have hne : (!(ps' ++ [h0]).isEmpty) = true := by cases ps' <;> rfl
      rw [if_pos hne]
      have hh0 : h0 ∈ ks := sk.ps_in h0 (List.mem_append.mpr (.inr (List.mem_singleton.mpr rfl)))
      have hin := sk.sub h0 hh0
      refine ⟨fun σ' H' => ∃ m' < m, ∃ (G' : Hp) (kvs : List (Key × V)) (ks ps : List Str), Ex .no G G' H H' ∧ LocU .no G' H' p (.dK kvs) ∧ Loc .no G' H' r (ps.map V.str) ∧ KS kvs ks ∧ Seek W n ks ps ∧ (∀ y ∈ ks, y ∉ ps → ∀ u ∈ overW W y, u ∈ ks) ∧ m' + 2 * ks.length = 2 * W.length + ps.length ∧ ∃ a b : Option V, σ' = [some x, some (.str n), some (.ref p), some (.ref r), a, b], fun σ' H' h => h, ?_⟩
      refine run_pop l4 (xs := ps'.map V.str) (x := .str h0) (by rw [List.map_append] <;> rfl) (by rfl) ?_
      have d5 := d4.other (u' := .lst (ps'.map V.str)) hpr
      have l5 : Loc .no G4 (upd H4 r (.lst (ps'.map V.str))) r (ps'.map V.str) := l4.put
      have E5 := e04.wrote (u := .lst (ps'.map V.str)) (eA.none_back (fun z => z) hr1) l4.out l4.own
      generalize hH5 : upd H4 r (.lst (ps'.map V.str)) = H5 at d5 l5 E5 ⊢
      walk_at "nx"
      have hx5 := (PWeb C W).mono e04.gg hx
      refine for_ E5.fr (ito_listF (bs := overW W h0) (enc := .str) (EvP.nd (dget_ (fld_ (var_ (by rfl) hx5) (pweb_fld hC)) (var_ (by rfl) (Dp.str h0)) hin))) fun G6 H6 e6 => ?_
      refine ⟨fun i σ G' H' => Ex .no G G' H H' ∧ Same G6 G' ∧ ∃ (kvs : List (Key × V)) (ks2 ps2 : List Str), LocU .no G' H' p (.dK kvs) ∧ Loc .no G' H' r (ps2.map V.str) ∧ KS kvs ks2 ∧ Seek W n ks2 ps2 ∧ (∀ y ∈ ks2, y ∉ ps2 → y ≠ h0 → ∀ u ∈ overW W y, u ∈ ks2) ∧ (∀ u ∈ (overW W h0).take i, u ∈ ks2) ∧ h0 ∈ ks2 ∧ 2 * W.length + ps2.length = (m - 1) + 2 * ks.length + (ks2.length - ks.length) ∧ ks.length ≤ ks2.length ∧ ∃ b : Option V, σ = [some x, some (.str n), some (.ref p), some (.ref r), some (.str h0), b], ?_, fun i σ G H h => ⟨h.2.1, h.1.fr.sub⟩, ?_, ?_⟩
      · refine ⟨E5.trans e6, Same.refl _, kvs, ks, ps', d5.ex e6, l5.ex e6, k3, ⟨sk.nd, sk.sub, fun y hy => sk.ps_in y (List.mem_append.mpr (.inl hy)), sk.re, sk.me, by have := sk.le; rw [List.length_append, List.length_singleton] at this; omega⟩, fun y hy h1 h2 => cl y hy fun h3 => ?_, (fun u hu => by rw [List.take_zero] at hu; cases hu), hh0, ?_, Nat.le_refl _, _, rfl⟩
        · rcases List.mem_append.mp h3 with h3 | h3
          · exact h1 h3
          · exact h2 (List.mem_singleton.mp h3)
        · rw [List.length_append, List.length_singleton] at hm
          omega
      · rintro i φ y σ G7 H7 hi hy ⟨e7, s7, kvs2, ks2, ps2, d7, l7, k7, sk7, cl7, tk, hh, ar, le, b2, rfl⟩
        rw [List.getElem?_map] at hi
        obtain ⟨u, hu, rfl⟩ := Option.map_eq_some_iff.mp hi
        have hum := List.mem_of_getElem? hu
        have hyu : y = .str u := dp_str hy
        subst hyu
        have hsk7 := sk7.few hW
        refine ⟨.str u, by rfl, .ref p, by rfl, p, _, rfl, DGet.k (k := .inr u) d7.at_, _, rfl, ?_⟩
        rw [k7.some u]
        by_cases c : u ∈ ks2
        · rw [decide_eq_true c]
          refine iteF ?_
          walk_at "nx"
          refine ⟨G7, e7, s7, kvs2, ks2, ps2, d7, l7, k7, sk7, cl7, fun z hz => ?_, hh, ar, le, _, rfl⟩
          rw [List.take_add_one, hu] at hz
          rcases List.mem_append.mp hz with hz | hz
          · exact tk z hz
          · rw [List.mem_singleton.mp hz]; exact c
        · rw [decide_eq_false c]
          refine iteT ?_
          refine ⟨.str h0, by rfl, .ref p, by rfl, .str u, by rfl, p, upd H7 p (.dK (putK kvs2 (.inr u) (.str h0))), rfl, DPut.k (k := .inr u) d7.at_ (by rw [sizeLine_eq, k7.len]; omega), ?_⟩
          have d8 : LocU .no G7 (upd H7 p (.dK (putK kvs2 (.inr u) (.str h0)))) p (.dK (putK kvs2 (.inr u) (.str h0))) := d7.put
          have l8 : Loc .no G7 (upd H7 p (.dK (putK kvs2 (.inr u) (.str h0)))) r (ps2.map V.str) := LocU.other l7 (Ne.symm hpr)
          have E8 := e7.wrote (u := .dK (putK kvs2 (.inr u) (.str h0))) hp d7.out d7.own
          generalize hH8 : upd H7 p (.dK (putK kvs2 (.inr u) (.str h0))) = H8 at d8 l8 E8 ⊢
          have hpl := sk7.le
          refine st_append (K := K) E8.fr l8 (by rw [List.length_map]; omega) (by rfl) (var_ (Φ := PD K (.str u)) (by rfl) (Dp.str u)) fun y9 H9 G9 e9 p9 fr9 l9 => ?_
          have hy9 : y9 = .str u := dp_str p9
          subst hy9
          refine ⟨G9, (E8.trans e9).wrote hr0 (l8.ex e9).out (l8.ex e9).own, s7.trans e9.gg, _, ks2 ++ [u], ps2 ++ [u], LocU.other (d8.ex e9) hpr, ?_, k7.put c, ⟨?_, ?_, ?_, ?_, List.mem_append.mpr (.inl sk7.me), by rw [List.length_append, List.length_append, List.length_singleton]; omega⟩, ?_, ?_, List.mem_append.mpr (.inl hh), ?_, ?_, _, rfl⟩
          · rw [List.map_append]; exact l9
          · exact List.nodup_append.mpr ⟨sk7.nd, by simp, fun a ha b hb e => c (by rw [← List.mem_singleton.mp hb, ← e]; exact ha)⟩
          · intro z hz
            rcases List.mem_append.mp hz with hz | hz
            · exact sk7.sub z hz
            · rw [List.mem_singleton.mp hz]; exact over_in hW hin hum
          · intro z hz
            rcases List.mem_append.mp hz with hz | hz
            · exact List.mem_append.mpr (.inl (sk7.ps_in z hz))
            · exact List.mem_append.mpr (.inr hz)
          · intro z hz
            rcases List.mem_append.mp hz with hz | hz
            · exact sk7.re z hz
            · rw [List.mem_singleton.mp hz]; exact .step (sk7.re h0 hh) hum
          · intro z hz h1 h2 v hv2
            rcases List.mem_append.mp hz with hz | hz
            · exact List.mem_append.mpr (.inl (cl7 z hz (fun h3 => h1 (List.mem_append.mpr (.inl h3))) h2 v hv2))
            · exact absurd (List.mem_append.mpr (.inr hz)) h1
          · intro z hz
            rw [List.take_add_one, hu] at hz
            rcases List.mem_append.mp hz with hz | hz
            · exact List.mem_append.mpr (.inl (tk z hz))
            · exact List.mem_append.mpr (.inr hz)
          · rw [List.length_append, List.length_append, List.length_singleton]
            omega
          · rw [List.length_append]; omega
      · rintro σ G7 H7 ⟨e7, s7, kvs2, ks2, ps2, d7, l7, k7, sk7, cl7, tk, hh, ar, le, b2, rfl⟩
        have hsk7 := sk7.few hW
        rw [List.length_append, List.length_singleton] at hm
        refine ⟨2 * W.length + ps2.length - 2 * ks2.length, by omega, G7, kvs2, ks2, ps2, e7, d7, l7, k7, sk7, fun z hz h1 v hv2 => ?_, by omega, _, _, rfl⟩
        by_cases c : z = h0
        · subst c
          rw [List.length_map, List.take_length] at tk
          exact tk v hv2
        · exact cl7 z hz h1 c v hv2
/-! beneath, tops -/
def S_beneath (K : PySem.W.Frag) (C : Addr) : Ow → List Pr → Pr → Prop := fun o Φs Ψ => o = .no ∧ ∃ W x y, WebIn W ∧ x ∈ namesW W ∧ Φs = [PWeb C W, PD K (.str x), PD K (.str y)] ∧ Ψ = PD K (.bool (below W x y))
theorem ok_Web_beneath (Z : Zs mg) (hC : WCls K C) (M_Web_above : MDef P w K mg base 1 C "above" ["self", "name"] (Fn (S_above K C))) (A : AtM K C "beneath" "Web.beneath" s_Web_beneath) : MDef P w K mg base 2 C "beneath" ["self", "one", "other"] (Fn (S_beneath K C)) := by
  refine mdef_of A sc_Web_beneath (fun _ _ _ _ _ _ us hl => match us, hl with | [_, _, _], _ => rfl) (fun vs H Q E h => Fn.len (fun o Φs Ψ ⟨_, W, x, y, _, _, h3, _⟩ => by rw [h3] <;> rfl) h) fun f cdv A outer s H vs Q E hr h => ?_
  obtain ⟨_, _, _, G, ⟨rfl, W, x, y, hW, hn, rfl, rfl⟩, fr, hv, q⟩ := h
  match vs, hv with
  | [a, b, c], ⟨ha, hb, hc, _⟩ => ?_
  refine ⟨_, (pss_one (ps_ret (pe_cmp (pc_din (hu_of hr) (pv 2) (kMeth M_Web_above hr (by omega) (pv 0) (pa_cons (pv 1) pa_nil))) (by rfl)))), ?_⟩
  have hcy : c = .str y := dp_str hc
  subst hcy
  refine ⟨.str y, by rfl, ev_meth (o := .no) (G := G) (Ψ := PKeys (Reach W x)) (var_ (by rfl) ha) (pweb_ins (by decide)) (eva_cons (var_ (by rfl) hb) eva_nil) ⟨rfl, W, x, hW, hn, rfl, rfl⟩ H fr _ fun v H1 G1 e1 p1 => ?_⟩
  obtain ⟨d, kvs, rfl, hd, hk⟩ := p1
  refine ⟨d, _, rfl, DGet.k (k := .inr y) (e1.fr.sub d _ hd), q _ _ _ e1 ?_⟩
  have e : (valV kvs (.inr y)).isSome = below W x y := by
    have h1 := hk y
    rw [← below_iff] at h1
    cases h2 : (valV kvs (.inr y)).isSome <;> cases h3 : below W x y <;> rw [h2, h3] at h1 <;> simp_all
  rw [e]
  exact Dp.bl _
noncomputable def topB (W : Wb) (l : List Str) (n : Str) : Bool := !l.any fun o => !decide (o = n) && below W n o
noncomputable def topsW (W : Wb) (l : List Str) : List Str := (sortN l).filter (topB W l)
def S_tops (K : PySem.W.Frag) (C : Addr) : Ow → List Pr → Pr → Prop := fun o Φs Ψ => o = .no ∧ ∃ W l, WebIn W ∧ (∀ x ∈ l, x ∈ namesW W) ∧ l.length < 64 ∧ Φs = [PWeb C W, PSq K (l.map .str)] ∧ Ψ = PD K (.list ((topsW W l).map .str))
theorem ok_Web_tops (Z : Zs mg) (hC : WCls K C) (M_Web_beneath : MDef P w K mg base 2 C "beneath" ["self", "one", "other"] (Fn (S_beneath K C))) (A : AtM K C "tops" "Web.tops" s_Web_tops) : MDef P w K mg base 3 C "tops" ["self", "names"] (Fn (S_tops K C)) := by
  refine mdef_of A sc_Web_tops (fun _ _ _ _ _ _ us hl => match us, hl with | [_, _], _ => rfl) (fun vs H Q E h => Fn.len (fun o Φs Ψ ⟨_, W, l, _, _, _, h3, _⟩ => by rw [h3] <;> rfl) h) fun f cdv A outer s H vs Q E hr h => ?_
  obtain ⟨_, _, _, G, ⟨rfl, W, l, hW, hl, hln, rfl, rfl⟩, fr, hv, q⟩ := h
  obtain ⟨x, y, rfl, hx, hy⟩ := allp2 hv
  refine ⟨_, (pss_cons (ps_set (i := 2) sc_Web_tops.nd rfl (.inl rfl) (pe_lst pa_nil))
    (pss_cons (ps_for PassesOwn.never rfl (kPiL (K := K) rfl (pe_callB (kSortS (K := K) (w := w) rfl rfl rfl hr.units) (by rfl) Z.sorted bt_sorted (pa_cons (pe_callTy (kSet (K := K) (w := w) rfl rfl rfl (u72 hr)) (by rfl) Z.set bt_set (pa_cons (pv 1) pa_nil)) pa_nil))) (pg_name (i := 3) sc_Web_tops.nd rfl (.inr rfl)) (pss_one (ps_if (pt_not (pt_val (pe_callB (kAny (K := K) rfl rfl) (by rfl) Z.any bt_any (pa_cons (pe_lc (own := [("other", 4)]) (g := gName 4) (tt := tYes) rfl sc_Web_tops.nd (kPiS (K := K) rfl (pv 1)) (blkOk_by (N := n_Web_tops) (sc := (defScope s_Web_tops)) (by decide +kernel)) (fun _ _ _ _ _ => (pg_name (i := 4) sc_Web_tops.nd rfl (.inl rfl))) (fun _ _ _ _ _ => pts_nil) (fun _ _ _ _ _ => (pe_and (pe_cmpR op_ne (pv 4) (pv 3) (nomark _)) (pe_one (kMeth M_Web_beneath hr (by omega) (pv 0) (pa_cons (pv 3) (pa_cons (pv 4) pa_nil))))))) pa_nil)))) (pss_one (ps_expr (kBm (K := K) rfl PySem.F.plainAttrs_list PySem.F.slot_list_append PySem.F.type_list_append mt_append (pv 2) (pa_cons (pv 3) pa_nil)))) pss_nil)))
    (pss_one (ps_ret (pv 2))))), ?_⟩
  refine st_new fr fun p hp eA => ?_
  have l1 : Loc .no G _ p [] := Loc.new fr hp
  walk_at "nx"
  refine for_ eA.fr (ito_listF (bs := sortN l) (enc := .str) (EvP.nd (sortsetN_ (var_ (by rfl) hy) (hset_strs (by omega)) (srtb_strs (by omega)) encS.sorted_set))) fun G1 H1 e1 => ?_
  have hsl : (sortN l).length ≤ 100 := Nat.le_trans (encS.len_ss l) (by omega)
  refine ⟨fun i σ G' H' => (∃ acc, Lp .no G H G1 G' H' p acc ∧ acc = (((sortN l).take i).filter (topB W l)).map V.str) ∧ ∃ a b : Option V, σ = [some x, some y, some (.ref p), a, b],
    ⟨⟨[], ⟨eA.trans e1, Same.refl _, l1.ex e1⟩, by rw [List.take_zero] <;> rfl⟩, _, _, rfl⟩, fun i σ G H ⟨⟨acc, h, _⟩, _⟩ => ⟨h.gg, h.ex.fr.sub⟩, ?_, ?_⟩
  · rintro i φ u σ G2 H2 hi hu ⟨⟨acc, lp, hacc⟩, a, b, rfl⟩
    rw [List.getElem?_map] at hi
    obtain ⟨n, hn, rfl⟩ := Option.map_eq_some_iff.mp hi
    have hnm := hl n (encS.mem_ss.mp (List.mem_of_getElem? hn))
    have hx2 := (PWeb C W).mono lp.ex.gg hx
    have hy2 := (PSq K (l.map .str)).mono lp.ex.gg hy
    have hil : i < (sortN l).length := (List.getElem?_eq_some_iff.mp hn).1
    have hal : acc.length ≤ 100 := by
      rw [hacc, List.length_map]
      exact Nat.le_trans (List.length_filter_le _ _) (by rw [List.length_take]; omega)
    have nxt : ((sortN l).take (i + 1)).filter (topB W l) = ((sortN l).take i).filter (topB W l) ++ [n].filter (topB W l) := by
      rw [List.take_add_one, hn, List.filter_append] <;> rfl
    refine st_if (b := topB W l n) lp.ex.fr (tnot_ (evt_B (anyLc (bs := l) (Θ := fun o => PD K (.str o)) (f := fun o => !decide (o = n) && below W n o) (by decide) (ito_seqF (enc := .str) (var_ (by rfl) hy2)) (by omega) rfl fun o ho z G3 s3 hz => evd_and (neS_ (var_ (by rfl) hz) (var_ (by rfl) (dsame hu s3)) rfl) fun _ => ev_meth (var_ (by rfl) ((PWeb C W).mono s3 hx2)) (pweb_ins (by decide)) (eva_cons (var_ (by rfl) (dsame hu s3)) (eva_cons (var_ (by rfl) hz) eva_nil)) ⟨rfl, W, n, o, hW, hnm, rfl, rfl⟩)) rfl) (fun c H3 G3 e3 => ?_) fun c H3 G3 e3 => ?_
    · have lp3 := lp.step e3
      refine st_append (K := K) lp3.ex.fr lp3.loc (by omega) (by rfl) (var_ (Φ := PD K (.str n)) (by rfl) (dsame hu e3.gg)) fun y9 H9 G9 e9 p9 fr9 l9 => ?_
      have lp9 := (lp3.step e9).put hp (acc' := acc ++ [y9])
      refine ⟨G9, ⟨_, lp9, ?_⟩, _, _, rfl⟩
      rw [nxt, List.map_append, hacc, dp_str p9, List.filter_cons_of_pos c] <;> rfl
    · walk_at "nx"
      refine ⟨G3, ⟨acc, lp.step e3, ?_⟩, _, _, rfl⟩
      rw [nxt, hacc, List.filter_cons_of_neg (by rw [c]; decide)]
      simp
  · rintro σ G2 H2 ⟨⟨acc, lp, hacc⟩, a, b, rfl⟩
    walk_at "nx"
    have E := lp.loc.took lp.ex hp
    refine st_ret E.fr (var_ (Φ := PD K (.list ((topsW W l).map .str))) (by rfl) ?_) (exq q E)
    refine Dp.lst (.inl (.inl upd_same)) ?_
    rw [hacc, List.length_map, List.take_length]
    exact dpall_of_strs _
end
end Fm
set_option maxHeartbeats 4000000
/-! FmV: webs as texts. -/
namespace Fm
open PySem PySem.Spec PyProof.Rows L2
local macro_rules | `(tactic| walk_at "nx") => `(tactic| try dsimp only [tSeq, tNext])
theorem sum_le {B : Nat} : ∀ {ps : List Str}, (∀ p ∈ ps, p.length ≤ B) → (ps.map (·.length)).sum ≤ ps.length * B
  | [], _ => Nat.zero_le _
  | p :: ps, h => by
    have h1 := h p List.mem_cons_self
    have h2 := sum_le fun q hq => h q (List.mem_cons_of_mem _ hq)
    rw [List.map_cons, List.sum_cons, List.length_cons, Nat.succ_mul]
    omega
theorem join_len {B : Nat} {s : Str} {ps : List Str} (h : ∀ p ∈ ps, p.length ≤ B) : (Str.join s ps).length ≤ ps.length * B + ps.length * s.length := by
  have := StrLaws.join_length_le s ps
  have h2 := sum_le h
  omega
theorem isName_free {x : Str} (h : isName x = true) {k : Nat} (hk : k < 97 ∨ 122 < k) : k ∉ sg x := fun hm => by
  have := isName_let h k hm
  omega
def tupT (t : Str × List Str) : Str := if t.2 = [] then t.1 else t.1 ++ ": " ++ Str.join ", " t.2
def webT (W : Wb) : Str := Str.join "; " (W.map tupT)
/-- names -/
def AllN (l : List Str) : Prop := ∀ y ∈ l, isName y = true
theorem joinN_len {s : Str} {l : List Str} (h : AllN l) (hl : l.length ≤ 20) (hs : s.length ≤ 2) : (Str.join s l).length ≤ 200 := by
  have h1 := join_len (s := s) (B := 8) (ps := l) fun p hp => isName_len (h p hp)
  have h2 : l.length * s.length ≤ 20 * 2 := Nat.mul_le_mul hl hs
  omega
theorem joinN_free {l : List Str} (h : AllN l) {k : Nat} (hk : k < 97 ∨ 122 < k) (h1 : k ≠ 44) (h2 : k ≠ 32) : k ∉ sg (Str.join ", " l) := by
  match l, h with
  | [], _ => intro z; cases z
  | [p], h =>
    have : Str.join ", " [p] = p := by rfl
    rw [this]
    exact isName_free (h p List.mem_cons_self) hk
  | p :: q :: r, h =>
    rw [sg_join_cons]
    simp only [List.mem_append, not_or]
    have e : sg (", " : Str) = [44, 32] := rfl
    refine ⟨⟨isName_free (h p List.mem_cons_self) hk, ?_⟩, joinN_free (l := q :: r) (fun y hy => h y (List.mem_cons_of_mem _ hy)) hk h1 h2⟩
    rw [e]
    simp [h1, h2]
section
variable {P : Program} {w : World} {K : PySem.W.Frag} {mg : Str → Option Value} {base : Heap} {C : Addr}
def R_read_name : List PyData → PyData → Prop := fun ds d => ∃ x : Str, isName x = true ∧ ds = [.str x] ∧ d = .str x
theorem ok_read_name (D_is_name : Def P w K mg base 1 "is_name" ["thing"] (FnR K 1 R_is_name)) (A : At K mg "read_name" s_read_name) : Def P w K mg base 2 "read_name" ["text"] (FnR K 1 R_read_name) := by
  refine def_of A sc_read_name (fun _ _ _ _ _ _ us hl => match us, hl with | [_], _ => rfl) (fun vs H Q E h => h.len) fun f cdv A outer s H vs Q E hr h => ?_
  obtain ⟨ds, d, G, hn, ⟨x, hx, rfl, rfl⟩, fr, hv, q⟩ := h.open
  obtain ⟨v, rfl, hxv⟩ := dpall1 hv
  refine ⟨_, (pss_cons (ps_if (pt_not (pt_val (pe_def D_is_name hr (by omega) (by rfl) (pa_cons (pv 0) pa_nil)))) (pss_one ps_never) pss_nil)
    (pss_one (ps_ret (pv 0)))), ?_⟩
  have hl := isName_len hx
  refine st_no fr (tnot_ (evt_B (evd_call (ds := [.str x]) (eva_cons (var_ (by rfl) hxv) eva_nil) (by rfl) ⟨x, by omega, rfl, by rw [hx]⟩)) rfl) fun H1 G1 e1 => ?_
  walk_at "nx"
  exact st_ret e1.fr (var_ (by rfl) (dsame hxv e1.gg)) (exq q e1)
def R_read_over : List PyData → PyData → Prop := fun ds d => ∃ l : List Str, l ≠ [] ∧ AllN l ∧ l.length ≤ 20 ∧ ds = [.str (Str.join ", " l)] ∧ d = .list (l.map .str)
theorem ok_read_over (D_read_name : Def P w K mg base 2 "read_name" ["text"] (FnR K 1 R_read_name)) (A : At K mg "read_over" s_read_over) : Def P w K mg base 3 "read_over" ["text"] (FnR K 1 R_read_over) := by
  refine def_of A sc_read_over (fun _ _ _ _ _ _ us hl => match us, hl with | [_], _ => rfl) (fun vs H Q E h => h.len) fun f cdv A outer s H vs Q E hr h => ?_
  obtain ⟨ds, d, G, hn, ⟨l, h0, hN, hl, rfl, rfl⟩, fr, hv, q⟩ := h.open
  obtain ⟨v, rfl, hxv⟩ := dpall1 hv
  refine ⟨_, (pss_one (ps_ret (pe_lc (own := [("part", 1)]) (g := gName 1) (tt := tYes) rfl sc_read_over.nd (kPiL (K := K) rfl (pe_split (pv 0) pe_str)) (blkOk_by (N := n_read_over) (sc := (defScope s_read_over)) (by decide +kernel)) (fun _ _ _ _ _ => (pg_name (i := 1) sc_read_over.nd rfl (.inl rfl))) (fun _ _ _ _ _ => pts_nil) (fun _ _ _ _ _ => (pe_def D_read_name hr (by omega) (by rfl) (pa_cons (pv 1) pa_nil)))))), ?_⟩
  have hln := joinN_len (s := ", ") hN hl (by decide)
  refine st_ret fr (lcd1 (bs := l) (Θ := fun y => PD K (.str y)) (by decide) (ito_listF (enc := .str) (split_ (var_ (by rfl) hxv) evd_str (by rfl) (by omega) (split_back (c := 44) (ys := [32]) (by rfl) (by decide +kernel) h0 fun p hp => isName_free (hN p hp) (by decide)))) (by omega) fun y hy z G1 s1 hz => evd_call (ds := [.str y]) (eva_cons (var_ (by rfl) hz) eva_nil) (by rfl) ⟨y, hN y hy, rfl, rfl⟩) q
/-- a tuple of a web -/
structure TupOk (t : Str × List Str) : Prop where
  nm : isName t.1 = true
  ov : AllN t.2
  fw : t.2.length ≤ 20
theorem tupT_len {t : Str × List Str} (h : TupOk t) : (tupT t).length ≤ 300 := by
  have h1 := isName_len h.nm
  have h2 := joinN_len (s := ", ") h.ov h.fw (by decide)
  unfold tupT
  split
  · omega
  · rw [len_sg, sg_app, sg_app, show sg (": " : Str) = [58, 32] from rfl, List.length_append, List.length_append]
    rw [len_sg] at h1 h2
    simp only [List.length_cons, List.length_nil]
    omega
theorem tupT_free {t : Str × List Str} (h : TupOk t) : 59 ∉ sg (tupT t) := by
  unfold tupT
  split
  · exact isName_free h.nm (by decide)
  · rw [sg_app, sg_app, show sg (": " : Str) = [58, 32] from rfl]
    simp only [List.mem_append, not_or]
    exact ⟨⟨isName_free h.nm (by decide), by decide⟩, joinN_free h.ov (by decide) (by decide) (by decide)⟩
def R_read_tuple : List PyData → PyData → Prop := fun ds d => ∃ t, TupOk t ∧ ds = [.str (tupT t)] ∧ d = tupD t
theorem ok_read_tuple (D_read_name : Def P w K mg base 2 "read_name" ["text"] (FnR K 1 R_read_name)) (D_read_over : Def P w K mg base 3 "read_over" ["text"] (FnR K 1 R_read_over)) (A : At K mg "read_tuple" s_read_tuple) : Def P w K mg base 4 "read_tuple" ["text"] (FnR K 1 R_read_tuple) := by
  refine def_of A sc_read_tuple (fun _ _ _ _ _ _ us hl => match us, hl with | [_], _ => rfl) (fun vs H Q E h => h.len) fun f cdv A outer s H vs Q E hr h => ?_
  obtain ⟨ds, d, G, hn, ⟨t, ht, rfl, rfl⟩, fr, hv, q⟩ := h.open
  obtain ⟨v, rfl, hx⟩ := dpall1 hv
  refine ⟨_, (pss_cons (ps_asg (pe_partition (pv 0) pe_str) (kPgTup (K := K) (n := 3) rfl rfl (pgs_cons (pg_name (i := 1) sc_read_tuple.nd rfl (.inl rfl)) (pgs_cons (pg_name (i := 2) sc_read_tuple.nd rfl (.inl rfl)) (pgs_cons (pg_name (i := 3) sc_read_tuple.nd rfl (.inl rfl)) pgs_nil)))))
    (pss_cons (ps_if (pt_cmpR op_eq (pv 2) pe_str (nomark _)) (pss_one (ps_ret (pe_tup (pa_cons (pe_def D_read_name hr (by omega) (by rfl) (pa_cons (pv 0) pa_nil)) (pa_cons (pe_lst pa_nil) pa_nil))))) pss_nil)
    (pss_one (ps_ret (pe_tup (pa_cons (pe_def D_read_name hr (by omega) (by rfl) (pa_cons (pv 1) pa_nil)) (pa_cons (pe_def D_read_over hr (by omega) (by rfl) (pa_cons (pv 3) pa_nil)) pa_nil))))))), ?_⟩
  have hlen := tupT_len ht
  obtain ⟨n, l⟩ := t
  by_cases hl : l = []
  · subst hl
    have hT : tupT (n, []) = n := rfl
    rw [hT] at hx hlen
    refine st_asg fr (part_ (K := K) (var_ (by rfl) hx) evd_str (by rfl) (by omega) (part_no (c := 58) (ys := [32]) (by rfl) (isName_free ht.nm (by decide)))) fun y H1 G1 e1 p1 => ?_
    refine g_trip p1 e1.fr.sub fun a b c ha hb hc3 => ?_
    walk_at "nx"
    refine st_yes e1.fr (evt_test (eqS_ (var_ (by rfl) hb) evd_str rfl)) fun H2 G2 e2 => ?_
    exact st_ret e2.fr (evd_tup (ds := [.str n, .list []]) (eva_cons (evd_call (ds := [.str n]) (eva_cons (var_ (by rfl) (dsame hx (e1.trans e2).gg)) eva_nil) (by rfl) ⟨n, ht.nm, rfl, rfl⟩) (eva_cons (evd_lst (ds := []) eva_nil (by decide)) eva_nil)) (by simp)) (exq q (e1.trans e2))
  · have hT : tupT (n, l) = n ++ ": " ++ Str.join ", " l := if_neg hl
    rw [hT] at hx hlen
    refine st_asg fr (part_ (K := K) (var_ (by rfl) hx) evd_str (by rfl) (by omega) (part_at (c := 58) (ys := [32]) (a := sg n) (b := sg (Str.join ", " l)) (by rfl) (by rw [sg_app, sg_app]) (isName_free ht.nm (by decide)))) fun y H1 G1 e1 p1 => ?_
    refine g_trip p1 e1.fr.sub fun a b c ha hb hc3 => ?_
    walk_at "nx"
    refine st_no e1.fr (evt_test (eqS_ (var_ (by rfl) hb) evd_str rfl)) fun H2 G2 e2 => ?_
    walk_at "nx"
    have e3 : ofL (sg n) = n := str_ext (sg_ofL _)
    have e4 : ofL (sg (Str.join ", " l)) = Str.join ", " l := str_ext (sg_ofL _)
    rw [e3] at ha
    rw [e4] at hc3
    exact st_ret e2.fr (evd_tup (ds := [.str n, .list (l.map .str)]) (eva_cons (evd_call (ds := [.str n]) (eva_cons (var_ (by rfl) (dsame ha e2.gg)) eva_nil) (by rfl) ⟨n, ht.nm, rfl, rfl⟩) (eva_cons (evd_call (ds := [.str (Str.join ", " l)]) (eva_cons (var_ (by rfl) (dsame hc3 e2.gg)) eva_nil) (by rfl) ⟨l, hl, ht.ov, ht.fw, rfl, rfl⟩) eva_nil)) (by simp)) (exq q (e1.trans e2))
theorem WebIn.tup {W : Wb} (h : WebIn W) {t : Str × List Str} (ht : t ∈ W) : TupOk t := ⟨h.nm t ht, fun y hy => h.name (h.ov t ht y hy), h.fov t ht⟩
theorem webT_len {W : Wb} (h : WebIn W) : (webT W).length ≤ 10000 := by
  have h1 := join_len (s := "; ") (B := 300) (ps := W.map tupT) fun p hp => by
    obtain ⟨t, ht, rfl⟩ := List.mem_map.mp hp
    exact tupT_len (h.tup ht)
  rw [List.length_map, show ("; " : Str).length = 2 from rfl] at h1
  have := h.few
  unfold webT
  omega
theorem tupT_ne {t : Str × List Str} (h : TupOk t) : sg (tupT t) ≠ [] := by
  have h1 : sg t.1 ≠ [] := fun e => isName_ne h.nm (str_ext e)
  unfold tupT
  split
  · exact h1
  · rw [sg_app, sg_app]
    simp [h1]
theorem webT_ne {W : Wb} (h : WebIn W) (h0 : W ≠ []) : webT W ≠ "" := by
  match W, h, h0 with
  | [], _, h0 => exact absurd rfl h0
  | [t], h, _ =>
    intro e
    exact tupT_ne (h.tup List.mem_cons_self) (congrArg sg e)
  | t :: u :: r, h, _ =>
    intro e
    have e2 : sg (webT (t :: u :: r)) = [] := congrArg sg e
    unfold webT at e2
    rw [List.map_cons, List.map_cons, sg_join_cons] at e2
    simp at e2
    exact tupT_ne (h.tup List.mem_cons_self) (by simp [e2])
def S_read_web (K : PySem.W.Frag) (C : Addr) : Ow → List Pr → Pr → Prop := fun o Φs Ψ => o = .no ∧ ∃ W, WebIn W ∧ Φs = [PD K (.str (webT W))] ∧ Ψ = PWeb C (webOf W)
theorem ok_read_web (D_read_tuple : Def P w K mg base 4 "read_tuple" ["text"] (FnR K 1 R_read_tuple)) (D_Web_init : IDef P w K mg base 3 "Web" C ["self", "tuples"] (InitP C (S_init K C))) (A : At K mg "read_web" s_read_web) : Def P w K mg base 5 "read_web" ["text"] (Fn (S_read_web K C)) := by
  refine def_of A sc_read_web (fun _ _ _ _ _ _ us hl => match us, hl with | [_], _ => rfl) (fun vs H Q E h => Fn.len (fun o Φs Ψ ⟨_, ss, _, h3, _⟩ => by rw [h3] <;> rfl) h) fun f cdv A outer s H vs Q E hr h => ?_
  obtain ⟨_, _, _, G, ⟨rfl, W, hW, rfl, rfl⟩, fr, hv, q⟩ := h
  obtain ⟨x, rfl, hx⟩ := allp1 hv
  refine ⟨_, (pss_cons (ps_if (pt_cmpR op_eq (pv 0) pe_str (nomark _)) (pss_one (ps_ret (kMake D_Web_init hr (by omega) (by rfl) (pa_cons (pe_lst pa_nil) pa_nil)))) pss_nil)
    (pss_one (ps_ret (kMake D_Web_init hr (by omega) (by rfl) (pa_cons (pe_lc (own := [("part", 1)]) (g := gName 1) (tt := tYes) rfl sc_read_web.nd (kPiL (K := K) rfl (pe_split (pv 0) pe_str)) (blkOk_by (N := n_read_web) (sc := (defScope s_read_web)) (by decide +kernel)) (fun _ _ _ _ _ => (pg_name (i := 1) sc_read_web.nd rfl (.inl rfl))) (fun _ _ _ _ _ => pts_nil) (fun _ _ _ _ _ => (pe_def D_read_tuple hr (by omega) (by rfl) (pa_cons (pv 1) pa_nil)))) pa_nil))))), ?_⟩
  have hlen := webT_len hW
  have hfew := hW.few
  by_cases h0 : W = []
  · subst h0
    refine st_yes fr (evt_test (K := K) (eqS_ (y := "") (var_ (by rfl) hx) evd_str rfl)) fun H1 G1 e1 => ?_
    exact st_ret e1.fr (ev_make (eva_cons (evd_lst (ds := []) eva_nil (by decide)) eva_nil) ⟨rfl, [], hW, rfl, rfl⟩) (exq q e1)
  · refine st_no fr (evt_test (K := K) (eqS_ (var_ (by rfl) hx) evd_str (by rw [decide_eq_false (webT_ne hW h0)]))) fun H1 G1 e1 => ?_
    walk_at "nx"
    refine st_ret e1.fr (ev_make (Φs := [PD K (.list (W.map tupD))]) (eva_cons (lcd1 (bs := W) (Θ := fun t => PD K (.str (tupT t))) (by decide) ?_ (by omega) fun t ht z G2 s2 hz => evd_call (ds := [.str (tupT t)]) (eva_cons (var_ (by rfl) hz) eva_nil) (by rfl) ⟨t, hW.tup ht, rfl, rfl⟩) eva_nil) ⟨rfl, W, hW, rfl, rfl⟩) (exq q e1)
    have := ito_listF (bs := W) (enc := fun t => .str (tupT t)) (o := .no) (K := K) (σ := L2.start n_read_web [x]) (G := G1) (tl := tM1 rSplitTx (tVar 0) (tC (.str "; "))) ?_
    · exact this
    · have e := split_ (ps := W.map tupT) (var_ (o := .no) (σ := L2.start n_read_web [x]) (n := 0) (by rfl) (dsame hx e1.gg)) (evd_str (x := "; ")) (by rfl) (by omega) (split_back (c := 59) (ys := [32]) (by rfl) (by decide +kernel) (by simpa using h0) fun p hp => by
        obtain ⟨t, ht, rfl⟩ := List.mem_map.mp hp
        exact tupT_free (hW.tup ht))
      rw [List.map_map] at e
      exact e
theorem over_eq {W : Wb} (h : WebIn W) {t : Str × List Str} (ht : t ∈ W) : overW W t.1 = t.2 := by
  have h1 := over_mem (W := W) (x := t.1) (List.mem_map.mpr ⟨t, ht, rfl⟩)
  have nd := h.nd
  clear h
  unfold namesW at nd
  generalize overW W t.1 = z at h1
  induction W with
  | nil => cases ht
  | cons u W ih =>
    obtain ⟨n1, n2⟩ := List.nodup_cons.mp nd
    rcases List.mem_cons.mp ht with e | ht
    · rcases List.mem_cons.mp h1 with e2 | h9
      · rw [← e] at e2
        exact congrArg Prod.snd e2
      · rw [← e] at n1
        exact absurd (List.mem_map.mpr ⟨(t.1, z), h9, rfl⟩ : t.1 ∈ W.map (·.1)) n1
    · rcases List.mem_cons.mp h1 with e2 | h1
      · rw [← e2] at n1
        exact absurd (List.mem_map.mpr ⟨t, ht, rfl⟩ : t.1 ∈ W.map (·.1)) n1
      · exact ih ht n2 h1
def S_show_tuple (K : PySem.W.Frag) (C : Addr) : Ow → List Pr → Pr → Prop := fun o Φs Ψ => o = .no ∧ ∃ W t, WebIn W ∧ t ∈ W ∧ Φs = [PWeb C W, PD K (.str t.1)] ∧ Ψ = PD K (.str (tupT t))
theorem ok_show_tuple (M_Web_over : MDef P w K mg base 1 C "over" ["self", "name"] (Fn (S_over K C))) (A : At K mg "show_tuple" s_show_tuple) : Def P w K mg base 2 "show_tuple" ["web", "name"] (Fn (S_show_tuple K C)) := by
  refine def_of A sc_show_tuple (fun _ _ _ _ _ _ us hl => match us, hl with | [_, _], _ => rfl) (fun vs H Q E h => Fn.len (fun o Φs Ψ ⟨_, W, t, _, _, h3, _⟩ => by rw [h3] <;> rfl) h) fun f cdv A outer s H vs Q E hr h => ?_
  obtain ⟨_, _, _, G, ⟨rfl, W, t, hW, ht, rfl, rfl⟩, fr, hv, q⟩ := h
  obtain ⟨x, y, rfl, hx, hy⟩ := allp2 hv
  refine ⟨_, (pss_cons (ps_set (i := 2) sc_show_tuple.nd rfl (.inl rfl) (kMeth M_Web_over hr (by omega) (pv 0) (pa_cons (pv 1) pa_nil)))
    (pss_cons (ps_if (pt_cmpR (kEqD (K := K) rfl hr.units) (pv 2) (pe_lst pa_nil) (nomark _)) (pss_one (ps_ret (pv 1))) pss_nil)
    (pss_one (ps_ret (pe_op op_add_str (pe_op op_add_str (pv 1) pe_str) (pe_join pe_str (pv 2))))))), ?_⟩
  have hT := hW.tup ht
  refine st_set (Φ := PN K (t.2.map .str)) fr ?_ fun v1 H1 G1 e1 p1 => ?_
  · have := ev_meth (o := .no) (m := "over") (E := E0) (var_ (o := .no) (σ := L2.start n_show_tuple [x, y]) (n := 0) (by rfl) hx) (pweb_ins (by decide)) (eva_cons (var_ (Φ := PD K (.str t.1)) (n := 1) (by rfl) hy) eva_nil) (S := S_over K C) (Ψ := PN K ((overW W t.1).map .str)) ⟨rfl, W, t.1, List.mem_map.mpr ⟨t, ht, rfl⟩, rfl, rfl⟩
    rw [over_eq hW ht] at this
    exact this
  · walk_at "nx"
    have p2 := pn_d p1
    have hy1 := dsame hy e1.gg
    have hnz : Nz 1 (.list (t.2.map .str)) := nz_strs fun z hz => isName_ok (hT.ov z hz)
    have l1 := isName_len hT.nm
    have l2 := joinN_len (s := ", ") hT.ov hT.fw (by decide)
    have l3 := hT.fw
    refine st_if (b := decide (t.2 = [])) e1.fr (evt_test (eqD_ (K := K) (d := .list (t.2.map .str)) (e := .list []) (var_ (by rfl) p2) (evd_lst (ds := []) eva_nil (by decide)) (hnz.shaped (by decide)) (by rfl) ?_)) (fun c H2 G2 e2 => ?_) fun c H2 G2 e2 => ?_
    · rw [eqv_nil]
      cases t.2 <;> rfl
    · have c := of_decide_eq_true c
      have hT2 : tupT t = t.1 := by unfold tupT; rw [if_pos c]
      rw [hT2] at q
      exact st_ret e2.fr (var_ (by rfl) (dsame hy1 e2.gg)) (exq q (e1.trans e2))
    · have c := of_decide_eq_false c
      have hT2 : tupT t = t.1 ++ ": " ++ Str.join ", " t.2 := by unfold tupT; rw [if_neg c]
      rw [hT2] at q
      walk_at "nx"
      have l4 : (t.1 ++ ": " : Str).length ≤ 20 := by
        rw [len_sg, sg_app, List.length_append, show sg (": " : Str) = [58, 32] from rfl]
        rw [len_sg] at l1
        simp only [List.length_cons, List.length_nil]
        omega
      have l5 : (t.2.map (·.length)).sum + t.2.length * (", " : Str).length ≤ 16777216 := by
        have h1 := sum_le (ps := t.2) (B := 8) fun p hp => isName_len (hT.ov p hp)
        rw [show (", " : Str).length = 2 from rfl]
        omega
      exact st_ret e2.fr (addS_ (addS_ (var_ (by rfl) (dsame hy1 e2.gg)) evd_str (by rw [show (": " : Str).length = 2 from rfl]; omega) rfl) (join_ evd_str (var_ (by rfl) (dsame p2 e2.gg)) l5 rfl) (by omega) rfl) (exq q (e1.trans e2))
def S_show_web (K : PySem.W.Frag) (C : Addr) : Ow → List Pr → Pr → Prop := fun o Φs Ψ => o = .no ∧ ∃ W, WebIn W ∧ Φs = [PWeb C W] ∧ Ψ = PD K (.str (webT W))
theorem ok_show_web (M_Web_names : MDef P w K mg base 1 C "names" ["self"] (Fn (S_names K C))) (D_show_tuple : Def P w K mg base 2 "show_tuple" ["web", "name"] (Fn (S_show_tuple K C))) (A : At K mg "show_web" s_show_web) : Def P w K mg base 3 "show_web" ["web"] (Fn (S_show_web K C)) := by
  refine def_of A sc_show_web (fun _ _ _ _ _ _ us hl => match us, hl with | [_], _ => rfl) (fun vs H Q E h => Fn.len (fun o Φs Ψ ⟨_, W, _, h3, _⟩ => by rw [h3] <;> rfl) h) fun f cdv A outer s H vs Q E hr h => ?_
  obtain ⟨_, _, _, G, ⟨rfl, W, hW, rfl, rfl⟩, fr, hv, q⟩ := h
  obtain ⟨x, rfl, hx⟩ := allp1 hv
  refine ⟨_, (pss_one (ps_ret (pe_join pe_str (pe_lc (own := [("name", 1)]) (g := gName 1) (tt := tYes) rfl sc_show_web.nd (kPiL (K := K) rfl (kMeth0 M_Web_names hr (by omega) (pv 0))) (blkOk_by (N := n_show_web) (sc := (defScope s_show_web)) (by decide +kernel)) (fun _ _ _ _ _ => (pg_name (i := 1) sc_show_web.nd rfl (.inl rfl))) (fun _ _ _ _ _ => pts_nil) (fun _ _ _ _ _ => (pe_def D_show_tuple hr (by omega) (by rfl) (pa_cons (pv 0) (pa_cons (pv 1) pa_nil)))))))), ?_⟩
  have hfew := hW.few
  have l5 : ((W.map tupT).map (·.length)).sum + (W.map tupT).length * ("; " : Str).length ≤ 16777216 := by
    have h1 := sum_le (ps := W.map tupT) (B := 300) fun p hp => by
      obtain ⟨t, ht, rfl⟩ := List.mem_map.mp hp
      exact tupT_len (hW.tup ht)
    rw [List.length_map] at h1 ⊢
    rw [show ("; " : Str).length = 2 from rfl]
    omega
  have key := lcd1 (o := .no) (K := K) (n := 1) (vs := [1]) (σ := L2.start n_show_web [x]) (G := G) (bs := W) (Θ := fun t => PD K (.str t.1)) (f := fun t => .str (tupT t)) (wi := iList K (tMeth C "names" (Fn (S_names K C)) [] E0 (tVar 0) tNil)) (te := tCall (Fn (S_show_tuple K C)) [] E0 (tCons (tVar 0) (tCons (tVar 1) tNil))) (by decide) ?_ (by omega) fun t ht z G1 s1 hz =>
    ev_call (eva_cons (var_ (by rfl) ((PWeb C W).mono s1 hx)) (eva_cons (var_ (by rfl) hz) eva_nil)) ⟨rfl, W, t, hW, ht, rfl, rfl⟩ (.inl rfl)
  · have k2 : EvD .no K (tLc (iList K (tMeth C "names" (Fn (S_names K C)) [] E0 (tVar 0) tNil)) (gName 1) tYes (tCall (Fn (S_show_tuple K C)) [] E0 (tCons (tVar 0) (tCons (tVar 1) tNil))) [1]) (L2.start n_show_web [x]) G (.list ((W.map tupT).map .str)) := by
      rw [List.map_map]
      exact key
    exact st_ret fr (join_ evd_str k2 l5 rfl) q
  · have e : EvP .no (tMeth C "names" (Fn (S_names K C)) [] E0 (tVar 0) tNil) (L2.start n_show_web [x]) G (PN K ((namesW W).map .str)) := ev_meth (var_ (by rfl) hx) (pweb_ins (by decide)) eva_nil ⟨rfl, W, rfl, rfl⟩
    have e2 := EvP.nd e
    unfold namesW at e2
    rw [List.map_map] at e2
    exact ito_listF (enc := fun t : Str × List Str => .str t.1) e2
end
end Fm
set_option maxHeartbeats 4000000
/-! FmP1: kinds, by levels. -/
namespace Fm
open PySem PySem.Spec PyProof.Rows L2
inductive KF (α : Type) where
  | any
  | mk (names : List Str) (spans : List Span) (inners : List α)
  deriving DecidableEq
def Kd : Nat → Type
  | 0 => Unit
  | n + 1 => KF (Kd n)
def kdDec : ∀ n, DecidableEq (Kd n)
  | 0 => inferInstanceAs (DecidableEq Unit)
  | n + 1 => by
    have := kdDec n
    exact inferInstanceAs (DecidableEq (KF (Kd n)))
instance (n : Nat) : DecidableEq (Kd n) := kdDec n
def kindF {α : Type} (e : α → PyData) : KF α → PyData
  | .any => .tuple [.bool true, .tuple [], .tuple [], .tuple []]
  | .mk ns ss is => .tuple [.bool false, .tuple (ns.map .str), .tuple (ss.map spanD), .tuple (is.map e)]
/-! ### a coding -/
theorem alike_map {α : Type} {e : α → PyData} (h : ∀ a b, PySem.W.alike (e a) (e b) = true) : ∀ (l m : List α), PySem.W.alikeAll (l.map e) (m.map e) = true
  | [], _ => by simp [PySem.W.alikeAll]
  | _ :: _, [] => by simp [PySem.W.alikeAll]
  | a :: l, b :: m => by
    rw [List.map_cons, List.map_cons, PySem.W.alikeAll, h, alike_map h l m] <;> rfl
theorem alike_tup {xs ys : List PyData} (h : PySem.W.alikeAll xs ys = true) : PySem.W.alike (.tuple xs) (.tuple ys) = true := by rw [PySem.W.alike]; exact h
theorem keysD_map {α : Type} {e : α → PyData} (h : ∀ a b, keyD (e a) = keyD (e b) → a = b) : ∀ {l m : List α}, keysD (l.map e) = keysD (m.map e) → l = m
  | [], [], _ => rfl
  | [], _ :: _, z => by simp [keysD] at z
  | _ :: _, [], z => by simp [keysD] at z
  | a :: l, b :: m, z => by
    rw [List.map_cons, List.map_cons, keysD, keysD, List.cons.injEq] at z
    rw [h a b z.1, keysD_map h z.2]
theorem keyD_tup {xs ys : List PyData} (h : keyD (.tuple xs) = keyD (.tuple ys)) : keysD xs = keysD ys := by
  rw [keyD, keyD] at h
  injection h
theorem keyEnd_inj {a b : Option Int} (h : keyD (endD a) = keyD (endD b)) : a = b := by
  cases a <;> cases b <;> simp [endD, keyD, keysD] at h ⊢
  exact h
theorem keySpan_inj (a b : Span) (h : keyD (spanD a) = keyD (spanD b)) : a = b := by
  have h2 := keyD_tup h
  simp only [keysD, List.cons.injEq] at h2
  exact Prod.ext (keyEnd_inj h2.1) (keyEnd_inj h2.2.1)
theorem alikeAll_four {a b c d a' b' c' d' : PyData} (h1 : PySem.W.alike a a' = true) (h2 : PySem.W.alike b b' = true) (h3 : PySem.W.alike c c' = true) (h4 : PySem.W.alike d d' = true) : PySem.W.alike (.tuple [a, b, c, d]) (.tuple [a', b', c', d']) = true := by
  refine alike_tup ?_
  simp [PySem.W.alikeAll, h1, h2, h3, h4]
theorem alike_nilL (l : List PyData) : PySem.W.alike (.tuple []) (.tuple l) = true := alike_tup (by simp [PySem.W.alikeAll])
theorem alike_nilR (l : List PyData) : PySem.W.alike (.tuple l) (.tuple []) = true := alike_tup (by cases l <;> simp [PySem.W.alikeAll])
theorem kindF_alike {α : Type} {e : α → PyData} (h : ∀ a b, PySem.W.alike (e a) (e b) = true) : ∀ a b : KF α, PySem.W.alike (kindF e a) (kindF e b) = true
  | .any, .any => alikeAll_four rfl (alike_nilL _) (alike_nilL _) (alike_nilL _)
  | .any, .mk _ _ _ => alikeAll_four rfl (alike_nilL _) (alike_nilL _) (alike_nilL _)
  | .mk _ _ _, .any => alikeAll_four rfl (alike_nilR _) (alike_nilR _) (alike_nilR _)
  | .mk _ _ _, .mk _ _ _ => alikeAll_four rfl (alike_tup (alike_map (fun _ _ => rfl) _ _)) (alike_tup (alike_map spanD_alike _ _)) (alike_tup (alike_map h _ _))
theorem kindF_inj {α : Type} {e : α → PyData} (h : ∀ a b, keyD (e a) = keyD (e b) → a = b) : ∀ a b : KF α, keyD (kindF e a) = keyD (kindF e b) → a = b
  | .any, .any, _ => rfl
  | .any, .mk _ _ _, z => by
    have := keyD_tup z
    simp [keysD, keyD] at this
  | .mk _ _ _, .any, z => by
    have := keyD_tup z
    simp [keysD, keyD] at this
  | .mk a b c, .mk a' b' c', z => by
    have := keyD_tup z
    simp only [keysD, List.cons.injEq] at this
    rw [keysD_map encS.inj (keyD_tup this.2.1), keysD_map keySpan_inj (keyD_tup this.2.2.1), keysD_map h (keyD_tup this.2.2.2.1)]
def encF {α : Type} [DecidableEq α] (E : Enc α) : Enc (KF α) := ⟨kindF E.e, kindF_alike E.al, kindF_inj E.inj⟩
def encK : ∀ n, Enc (Kd n)
  | 0 => ⟨fun _ => .tuple [.bool true, .tuple [], .tuple [], .tuple []], fun _ _ => by simp [PySem.W.alike, PySem.W.alikeAll], fun _ _ _ => rfl⟩
  | n + 1 => encF (encK n)
abbrev kindD (n : Nat) : Kd n → PyData := (encK n).e
theorem kindD_any (n : Nat) : kindD (n + 1) .any = .tuple [.bool true, .tuple [], .tuple [], .tuple []] := rfl
theorem kindD_mk (n : Nat) (ns : List Str) (ss : List Span) (is : List (Kd n)) : kindD (n + 1) (.mk ns ss is) = .tuple [.bool false, .tuple (ns.map .str), .tuple (ss.map spanD), .tuple (is.map (kindD n))] := rfl
/-! ### what the program does with them -/
def nameIn (bel : Str → Str → Bool) (a b : List Str) : Bool := a.all fun x => b.any fun y => bel x y
def withinF (bel : Str → Str → Bool) {α : Type} (w : α → α → Bool) : KF α → KF α → Bool
  | _, .any => true
  | .any, .mk _ _ _ => false
  | .mk a b c, .mk a' b' c' => nameIn bel a a' && ((apartS b b').isEmpty && c.all fun x => c'.any fun y => w x y)
def withinK (bel : Str → Str → Bool) : ∀ n, Kd n → Kd n → Bool
  | 0 => fun _ _ => true
  | n + 1 => withinF bel (withinK bel n)
def outB {α : Type} [DecidableEq α] (w : α → α → Bool) (l : List α) (a : α) : Bool := !l.any fun b => !decide (b = a) && w a b
def outF {α : Type} [DecidableEq α] (E : Enc α) (w : α → α → Bool) (l : List α) : List α := (E.ss l).filter (outB w (E.ss l))
def outK (bel : Str → Str → Bool) (n : Nat) (l : List (Kd n)) : List (Kd n) := outF (encK n) (withinK bel n) l
def topB' (bel : Str → Str → Bool) (l : List Str) (n : Str) : Bool := !l.any fun o => !decide (o = n) && bel n o
def topsB (bel : Str → Str → Bool) (l : List Str) : List Str := (sortN l).filter (topB' bel l)
def reK (bel : Str → Str → Bool) : ∀ n, Kd n → Kd n
  | 0 => id
  | n + 1 => fun k => match k with
    | .any => .any
    | .mk ns ss is => .mk (topsB bel ns) (formedS ss) (outK bel n (is.map (reK bel n)))
def formK (bel : Str → Str → Bool) (n : Nat) (ns : List Str) (ss : List Span) (is : List (Kd n)) : Kd (n + 1) := .mk (topsB bel ns) (formedS ss) (outK bel n (is.map (reK bel n)))
theorem topsW_eq (W : Wb) (l : List Str) : topsW W l = topsB (below W) l := rfl
/-! ### kinds that can be worked with -/
def KOkF (nm : Str → Prop) {α : Type} (ok : α → Prop) : KF α → Prop
  | .any => True
  | .mk ns ss is => (∀ x ∈ ns, nm x) ∧ ns.length ≤ 12 ∧ ss.length ≤ 12 ∧ is.length ≤ 12 ∧ ∀ k ∈ is, ok k
def KOk (nm : Str → Prop) : ∀ n, Kd n → Prop
  | 0 => fun _ => False
  | n + 1 => KOkF nm (KOk nm n)
theorem KOk.mk {nm : Str → Prop} {n : Nat} {ns : List Str} {ss : List Span} {is : List (Kd n)} (h : KOk nm (n + 1) (.mk ns ss is)) : (∀ x ∈ ns, nm x) ∧ ns.length ≤ 12 ∧ ss.length ≤ 12 ∧ is.length ≤ 12 ∧ ∀ k ∈ is, KOk nm n k := h
theorem kind_nz {nm : Str → Prop} (hs : ∀ x, nm x → PyData.strOk x = true) : ∀ (n : Nat) (k : Kd n), KOk nm n k → Nz (2 * n + 2) (kindD n k)
  | 0, _, h => h.elim
  | n + 1, .any, _ => by
    rw [kindD_any]
    have : Nz 2 (.tuple [.bool true, .tuple [], .tuple [], .tuple []]) := ⟨by decide +kernel, by decide +kernel⟩
    exact this.mono (by omega)
  | n + 1, .mk ns ss is, h => by
    obtain ⟨h1, _, _, _, h5⟩ := KOk.mk h
    rw [kindD_mk]
    refine nz_tup fun d hd => ?_
    rcases List.mem_cons.mp hd with rfl | hd
    · exact nz_bool
    rcases List.mem_cons.mp hd with rfl | hd
    · refine (nz_tup (n := 0) fun d hd => ?_).mono (by omega)
      obtain ⟨x, hx, rfl⟩ := List.mem_map.mp hd
      exact nz_str (hs x (h1 x hx))
    rcases List.mem_cons.mp hd with rfl | hd
    · refine (nz_tup (n := 2) fun d hd => ?_).mono (by omega)
      obtain ⟨x, hx, rfl⟩ := List.mem_map.mp hd
      exact nz_span x
    · rw [List.mem_singleton.mp hd]
      refine (nz_tup (n := 2 * n + 2) fun d hd => ?_).mono (by omega)
      obtain ⟨x, hx, rfl⟩ := List.mem_map.mp hd
      exact kind_nz hs n x (h5 x hx)
theorem hashds_map {α : Type} {e : α → PyData} (h : ∀ a, hashd (e a) = true) : ∀ l : List α, hashds (l.map e) = true
  | [] => rfl
  | a :: l => by rw [List.map_cons, hashds, h a, hashds_map h l] <;> rfl
theorem kind_hash : ∀ (n : Nat) (k : Kd n), hashd (kindD n k) = true
  | 0, _ => rfl
  | n + 1, .any => rfl
  | n + 1, .mk ns ss is => by
    rw [kindD_mk, hashd, hashds, hashds, hashds, hashds, hashd, hashd, hashd, hashd, hashds_map (fun _ => rfl), hashds_map spanD_hash, hashds_map (kind_hash n)] <;> rfl
mutual
theorem key_depth : ∀ d : PyData, (keyD d).depth ≤ d.depth
  | .none => Nat.zero_le _
  | .bool _ => Nat.zero_le _
  | .int _ => Nat.zero_le _
  | .str _ => Nat.zero_le _
  | .list _ => Nat.zero_le _
  | .dict _ => Nat.zero_le _
  | .tuple ds => by
    rw [keyD, NestedKey.depth, PyData.depth]
    have := keys_depth ds
    omega
theorem keys_depth : ∀ ds : List PyData, NestedKey.depthAll (keysD ds) ≤ PyData.depthAll ds
  | [] => Nat.zero_le _
  | d :: ds => by
    rw [keysD, NestedKey.depthAll, PyData.depthAll]
    have h1 := key_depth d
    have h2 := keys_depth ds
    omega
end
theorem kind_tuple : ∀ (n : Nat) (k : Kd n), ∃ b r, kindD n k = .tuple (.bool b :: r)
  | 0, _ => ⟨_, _, rfl⟩
  | n + 1, .any => ⟨_, _, rfl⟩
  | n + 1, .mk _ _ _ => ⟨_, _, rfl⟩
theorem hset_kinds {nm : Str → Prop} (hs : ∀ x, nm x → PyData.strOk x = true) {n : Nat} (hn : n ≤ 3) {l : List (Kd n)} (h : ∀ k ∈ l, KOk nm n k) (hl : l.length < 64) : Hset (l.map (kindD n)) := ⟨by rw [List.length_map]; exact hl, .inr fun d hd => by
  obtain ⟨k, hk, rfl⟩ := List.mem_map.mp hd
  obtain ⟨b, r, e⟩ := kind_tuple n k
  refine ⟨_, e, kind_hash n k, ?_⟩
  have h1 := key_depth (kindD n k)
  have h2 := (kind_nz hs n k (h k hk)).dep
  omega⟩
theorem srtb_kinds {nm : Str → Prop} (hs : ∀ x, nm x → PyData.strOk x = true) {n : Nat} (hn : n ≤ 3) {l : List (Kd n)} (h : ∀ k ∈ l, KOk nm n k) (hl : l.length ≤ 100000) : Srtb (l.map (kindD n)) where
  al := (encK n).all l
  so := PySem.W.Sortable.tuples fun k => by
    obtain ⟨b, r, e⟩ := kind_tuple n k
    exact ⟨_, _, e⟩
  few := by rw [List.length_map]; exact hl
  dp := fun d hd => by
    obtain ⟨k, hk, rfl⟩ := List.mem_map.mp hd
    have h2 := (kind_nz hs n k (h k hk)).dep
    omega
/-! ### forming keeps them so -/
theorem topsB_mem {bel : Str → Str → Bool} {l : List Str} {x : Str} (h : x ∈ topsB bel l) : x ∈ l := encS.mem_ss.mp (List.mem_filter.mp h).1
theorem topsB_len {bel : Str → Str → Bool} {l : List Str} : (topsB bel l).length ≤ l.length := Nat.le_trans (List.length_filter_le _ _) (encS.len_ss l)
theorem outK_mem {bel : Str → Str → Bool} {n : Nat} {l : List (Kd n)} {x : Kd n} (h : x ∈ outK bel n l) : x ∈ l := (encK n).mem_ss.mp (List.mem_filter.mp h).1
theorem outK_len {bel : Str → Str → Bool} {n : Nat} {l : List (Kd n)} : (outK bel n l).length ≤ l.length := Nat.le_trans (List.length_filter_le _ _) ((encK n).len_ss l)
theorem reK_ok {nm : Str → Prop} {bel : Str → Str → Bool} : ∀ (n : Nat) (k : Kd n), KOk nm n k → KOk nm n (reK bel n k)
  | 0, _, h => h.elim
  | n + 1, .any, _ => True.intro
  | n + 1, .mk ns ss is, h => by
    obtain ⟨h1, h2, h3, h4, h5⟩ := KOk.mk h
    refine ⟨fun x hx => h1 x (topsB_mem hx), Nat.le_trans topsB_len h2, Nat.le_trans (formedS_len ss) h3, Nat.le_trans outK_len (by rw [List.length_map]; exact h4), fun k hk => ?_⟩
    obtain ⟨k', hk', rfl⟩ := List.mem_map.mp (outK_mem hk)
    exact reK_ok n k' (h5 k' hk')
theorem kind_eqv {nm : Str → Prop} {n : Nat} (a b : Kd n) : PyData.eqv (kindD n a) (kindD n b) = decide (a = b) := by
  have h := eqv_alike ((encK n).al a b) ((encK n).al a a)
  by_cases e : a = b
  · rw [decide_eq_true e]
    exact h.mpr (by rw [e])
  · rw [decide_eq_false e]
    cases z : PyData.eqv (kindD n a) (kindD n b) with
    | false => rfl
    | true => exact absurd ((encK n).einj (h.mp z)) e
end Fm
set_option maxHeartbeats 4000000
/-! FmQ: kinds formed, kinds within kinds. -/
namespace Fm
open PySem PySem.Spec PyProof.Rows L2
local macro_rules | `(tactic| walk_at "nx") => `(tactic| try dsimp only [tSeq, tNext])
/-- the first that p does not hold for -/
def beyondL {α : Type} (p : α → Bool) (l : List α) : List α := (l.filter fun x => !p x).take 1
theorem beyondL_nil {α : Type} {p : α → Bool} {l : List α} : (beyondL p l).isEmpty = l.all p := by
  unfold beyondL
  induction l with
  | nil => rfl
  | cons a l ih =>
    rw [List.filter_cons, List.all_cons]
    cases h : p a with
    | true => rw [← ih] <;> rfl
    | false => rfl
theorem beyondL_hit {α : Type} {p : α → Bool} {l : List α} {i : Nat} {x : α} (hx : l[i]? = some x) (hp : p x = false) (h : ∀ y ∈ l.take i, p y = true) : beyondL p l = [x] := by
  unfold beyondL
  have e : l = l.take i ++ x :: l.drop (i + 1) := by
    conv => lhs; rw [← List.take_append_drop i l]
    congr 1
    obtain ⟨hi, rfl⟩ := List.getElem?_eq_some_iff.mp hx
    exact List.drop_eq_getElem_cons hi
  rw [e, List.filter_append, List.filter_eq_nil_iff.mpr (fun y hy => by rw [h y hy]; decide), List.filter_cons_of_pos (by rw [hp]; decide)]
  rfl
theorem beyondL_none {α : Type} {p : α → Bool} {l : List α} (h : ∀ y ∈ l, p y = true) : beyondL p l = [] := by
  unfold beyondL
  rw [List.filter_eq_nil_iff.mpr (fun y hy => by rw [h y hy]; decide)]
  rfl
section
variable {P : Program} {w : World} {K : PySem.W.Frag} {mg : Str → Option Value} {base : Heap} {C : Addr}
abbrev inW (W : Wb) : Str → Prop := fun x => x ∈ namesW W
theorem inW_ok {W : Wb} (h : WebIn W) (x : Str) (hx : inW W x) : PyData.strOk x = true := isName_ok (h.name hx)
def S_first_beyond (K : PySem.W.Frag) (C : Addr) : Ow → List Pr → Pr → Prop := fun o Φs Ψ => o = .no ∧ ∃ W, ∃ a b : List Str, WebIn W ∧ (∀ x ∈ a, inW W x) ∧ a.length ≤ 12 ∧ b.length ≤ 12 ∧ Φs = [PWeb C W, PD K (.tuple (a.map .str)), PD K (.tuple (b.map .str))] ∧ Ψ = PD K (.list ((beyondL (fun x => b.any fun y => below W x y) a).map .str))
theorem ok_first_beyond (Z : Zs mg) (M_Web_beneath : MDef P w K mg base 2 C "beneath" ["self", "one", "other"] (Fn (S_beneath K C))) (A : At K mg "first_beyond" s_first_beyond) : Def P w K mg base 3 "first_beyond" ["web", "names", "others"] (Fn (S_first_beyond K C)) := by
  refine def_of A sc_first_beyond (fun _ _ _ _ _ _ us hl => match us, hl with | [_, _, _], _ => rfl) (fun vs H Q E h => Fn.len (fun o Φs Ψ ⟨_, W, a, b, _, _, _, _, h3, _⟩ => by rw [h3] <;> rfl) h) fun f cdv A outer s H vs Q E hr h => ?_
  obtain ⟨_, _, _, G, ⟨rfl, W, a, b, hW, ha, hal, hbl, rfl, rfl⟩, fr, hv, q⟩ := h
  match vs, hv with
  | [x, y, z], ⟨hx, hy, hz, _⟩ => ?_
  refine ⟨_, (pss_cons (ps_for PassesOwn.never rfl (kPiT (K := K) rfl (pv 1)) (pg_name (i := 3) sc_first_beyond.nd rfl (.inr rfl)) (pss_one (ps_if (pt_not (pt_val (pe_callB (kAny (K := K) rfl rfl) (by rfl) Z.any bt_any (pa_cons (pe_lc (own := [("other", 4)]) (g := gName 4) (tt := tYes) rfl sc_first_beyond.nd (kPiT (K := K) rfl (pv 2)) (blkOk_by (N := n_first_beyond) (sc := (defScope s_first_beyond)) (by decide +kernel)) (fun _ _ _ _ _ => (pg_name (i := 4) sc_first_beyond.nd rfl (.inl rfl))) (fun _ _ _ _ _ => pts_nil) (fun _ _ _ _ _ => (kMeth M_Web_beneath hr (by omega) (pv 0) (pa_cons (pv 3) (pa_cons (pv 4) pa_nil))))) pa_nil)))) (pss_one (ps_ret (pe_lst (pa_cons (pv 3) pa_nil)))) pss_nil)))
    (pss_one (ps_ret (pe_lst pa_nil)))), ?_⟩
  refine for_ fr (ito_tupF (bs := a) (enc := .str) (var_ (by rfl) hy)) fun G1 H1 e1 => ?_
  refine ⟨fun i σ G' H' => Ex .no G1 G' H1 H' ∧ (∀ n ∈ a.take i, (b.any fun o => below W n o) = true) ∧ ∃ c d : Option V, σ = [some x, some y, some z, c, d], ⟨Ex.refl e1.fr, fun n hn => by rw [List.take_zero] at hn; (cases hn), _, _, rfl⟩, fun i σ G H h => ⟨h.1.gg, h.1.fr.sub⟩, ?_, ?_⟩
  · rintro i φ u σ G2 H2 hi hu ⟨e2, hh, c, d, rfl⟩
    rw [List.getElem?_map] at hi
    obtain ⟨n, hn, rfl⟩ := Option.map_eq_some_iff.mp hi
    have e12 := e1.trans e2
    have hin := ha n (List.mem_of_getElem? hn)
    refine st_if (b := !b.any fun o => below W n o) e2.fr (tnot_ (evt_B (anyLc (bs := b) (Θ := fun o => PD K (.str o)) (f := fun o => below W n o) (by decide) (ito_tupF (enc := .str) (var_ (by rfl) (dsame hz e12.gg))) (by omega) rfl fun o ho v G3 s3 hv3 => ev_meth (var_ (by rfl) ((PWeb C W).mono (e12.gg.trans s3) hx)) (pweb_ins (by decide)) (eva_cons (var_ (by rfl) (dsame hu s3)) (eva_cons (var_ (by rfl) hv3) eva_nil)) ⟨rfl, W, n, o, hW, hin, rfl, rfl⟩)) rfl) (fun c H3 G3 e3 => ?_) fun c H3 G3 e3 => ?_
    · rw [Bool.not_eq_true'] at c
      rw [beyondL_hit hn c hh] at q
      exact st_ret e3.fr (evd_lst (ds := [.str n]) (eva_cons (var_ (by rfl) (dsame hu e3.gg)) eva_nil) (by simp)) (exq q (e12.trans e3))
    · walk_at "nx"
      rw [Bool.not_eq_false'] at c
      refine ⟨G3, e2.trans e3, fun m hm => ?_, _, _, rfl⟩
      rw [List.take_add_one, hn] at hm
      rcases List.mem_append.mp hm with hm | hm
      · exact hh m hm
      · rw [List.mem_singleton.mp hm]; exact c
  · rintro σ G2 H2 ⟨e2, hh, c, d, rfl⟩
    rw [List.length_map, List.take_length] at hh
    rw [beyondL_none hh] at q
    walk_at "nx"
    exact st_ret e2.fr (evd_lst (ds := []) eva_nil (by decide)) (exq q (e1.trans e2))
/-! by levels -/
def S_within (K : PySem.W.Frag) (C : Addr) (n : Nat) : Ow → List Pr → Pr → Prop := fun o Φs Ψ => o = .no ∧ ∃ W, ∃ a b : Kd n, WebIn W ∧ KOk (inW W) n a ∧ KOk (inW W) n b ∧ Φs = [PWeb C W, PD K (kindD n a), PD K (kindD n b)] ∧ Ψ = PD K (.bool (withinK (below W) n a b))
def S_inner_beyond (K : PySem.W.Frag) (C : Addr) (n : Nat) : Ow → List Pr → Pr → Prop := fun o Φs Ψ => o = .no ∧ ∃ W, ∃ a b : List (Kd n), WebIn W ∧ (∀ k ∈ a, KOk (inW W) n k) ∧ (∀ k ∈ b, KOk (inW W) n k) ∧ a.length ≤ 12 ∧ b.length ≤ 12 ∧ Φs = [PWeb C W, PD K (.tuple (a.map (kindD n))), PD K (.tuple (b.map (kindD n)))] ∧ Ψ = PD K (.list ((beyondL (fun x => b.any fun y => withinK (below W) n x y) a).map (kindD n)))
theorem ok_inner_beyond {n k : Nat} (Z : Zs mg) (D_within : Def P w K mg base k "within" ["web", "one", "other"] (Fn (S_within K C n))) (A : At K mg "inner_beyond" s_inner_beyond) : Def P w K mg base (k + 1) "inner_beyond" ["web", "inners", "others"] (Fn (S_inner_beyond K C n)) := by
  refine def_of A sc_inner_beyond (fun _ _ _ _ _ _ us hl => match us, hl with | [_, _, _], _ => rfl) (fun vs H Q E h => Fn.len (fun o Φs Ψ ⟨_, W, a, b, _, _, _, _, _, h3, _⟩ => by rw [h3] <;> rfl) h) fun f cdv A outer s H vs Q E hr h => ?_
  obtain ⟨_, _, _, G, ⟨rfl, W, a, b, hW, ha, hb, hal, hbl, rfl, rfl⟩, fr, hv, q⟩ := h
  match vs, hv with
  | [x, y, z], ⟨hx, hy, hz, _⟩ => ?_
  refine ⟨_, (pss_cons (ps_for PassesOwn.never rfl (kPiT (K := K) rfl (pv 1)) (pg_name (i := 3) sc_inner_beyond.nd rfl (.inr rfl)) (pss_one (ps_if (pt_not (pt_val (pe_callB (kAny (K := K) rfl rfl) (by rfl) Z.any bt_any (pa_cons (pe_lc (own := [("other", 4)]) (g := gName 4) (tt := tYes) rfl sc_inner_beyond.nd (kPiT (K := K) rfl (pv 2)) (blkOk_by (N := n_inner_beyond) (sc := (defScope s_inner_beyond)) (by decide +kernel)) (fun _ _ _ _ _ => (pg_name (i := 4) sc_inner_beyond.nd rfl (.inl rfl))) (fun _ _ _ _ _ => pts_nil) (fun _ _ _ _ _ => (pe_def D_within hr (by omega) (by rfl) (pa_cons (pv 0) (pa_cons (pv 3) (pa_cons (pv 4) pa_nil)))))) pa_nil)))) (pss_one (ps_ret (pe_lst (pa_cons (pv 3) pa_nil)))) pss_nil)))
    (pss_one (ps_ret (pe_lst pa_nil)))), ?_⟩
  refine for_ fr (ito_tupF (bs := a) (enc := kindD n) (var_ (by rfl) hy)) fun G1 H1 e1 => ?_
  refine ⟨fun i σ G' H' => Ex .no G1 G' H1 H' ∧ (∀ m ∈ a.take i, (b.any fun o => withinK (below W) n m o) = true) ∧ ∃ c d : Option V, σ = [some x, some y, some z, c, d], ⟨Ex.refl e1.fr, fun n hn => by rw [List.take_zero] at hn; (cases hn), _, _, rfl⟩, fun i σ G H h => ⟨h.1.gg, h.1.fr.sub⟩, ?_, ?_⟩
  · rintro i φ u σ G2 H2 hi hu ⟨e2, hh, c, d, rfl⟩
    rw [List.getElem?_map] at hi
    obtain ⟨m, hn, rfl⟩ := Option.map_eq_some_iff.mp hi
    have e12 := e1.trans e2
    have hin := ha m (List.mem_of_getElem? hn)
    refine st_if (b := !b.any fun o => withinK (below W) n m o) e2.fr (tnot_ (evt_B (anyLc (bs := b) (Θ := fun o => PD K (kindD n o)) (f := fun o => withinK (below W) n m o) (by decide) (ito_tupF (enc := kindD n) (var_ (by rfl) (dsame hz e12.gg))) (by omega) rfl fun o ho v G3 s3 hv3 => ev_call (eva_cons (var_ (by rfl) ((PWeb C W).mono (e12.gg.trans s3) hx)) (eva_cons (var_ (by rfl) (dsame hu s3)) (eva_cons (var_ (by rfl) hv3) eva_nil))) ⟨rfl, W, m, o, hW, hin, hb o ho, rfl, rfl⟩ (.inl rfl))) rfl) (fun c H3 G3 e3 => ?_) fun c H3 G3 e3 => ?_
    · rw [Bool.not_eq_true'] at c
      rw [beyondL_hit hn c hh] at q
      exact st_ret e3.fr (evd_lst (ds := [kindD n m]) (eva_cons (var_ (by rfl) (dsame hu e3.gg)) eva_nil) (by simp)) (exq q (e12.trans e3))
    · walk_at "nx"
      rw [Bool.not_eq_false'] at c
      refine ⟨G3, e2.trans e3, fun m hm => ?_, _, _, rfl⟩
      rw [List.take_add_one, hn] at hm
      rcases List.mem_append.mp hm with hm | hm
      · exact hh m hm
      · rw [List.mem_singleton.mp hm]; exact c
  · rintro σ G2 H2 ⟨e2, hh, c, d, rfl⟩
    rw [List.length_map, List.take_length] at hh
    rw [beyondL_none hh] at q
    walk_at "nx"
    exact st_ret e2.fr (evd_lst (ds := []) eva_nil (by decide)) (exq q (e1.trans e2))
theorem nz_kinds {W : Wb} (h : WebIn W) {n : Nat} (hn : n ≤ 20) {l : List (Kd n)} (hl : ∀ k ∈ l, KOk (inW W) n k) : Nz 60 (.list (l.map (kindD n))) := (nz_list (n := 2 * n + 2) fun d hd => by
  obtain ⟨k, hk, rfl⟩ := List.mem_map.mp hd
  exact kind_nz (inW_ok h) n k (hl k hk)).mono (by omega)
theorem beyondL_mem {α : Type} {p : α → Bool} {l : List α} {x : α} (h : x ∈ beyondL p l) : x ∈ l := (List.mem_filter.mp (List.mem_of_mem_take h)).1
theorem ok_within_step {n k : Nat} (hn : n ≤ 20) (hk : 4 ≤ k) (Z : Zs mg) (D_first_beyond : Def P w K mg base 3 "first_beyond" ["web", "names", "others"] (Fn (S_first_beyond K C))) (D_spans_apart : Def P w K mg base 4 "spans_apart" ["one", "other"] (Fn (S_spans_apart K)))
    (D_inner_beyond : Def P w K mg base k "inner_beyond" ["web", "inners", "others"] (Fn (S_inner_beyond K C n))) (A : At K mg "within" s_within) : Def P w K mg base (k + 1) "within" ["web", "one", "other"] (Fn (S_within K C (n + 1))) := by
  refine def_of A sc_within (fun _ _ _ _ _ _ us hl => match us, hl with | [_, _, _], _ => rfl) (fun vs H Q E h => Fn.len (fun o Φs Ψ ⟨_, W, a, b, _, _, _, h3, _⟩ => by rw [h3] <;> rfl) h) fun f cdv A outer s H vs Q E hr h => ?_
  obtain ⟨_, _, _, G, ⟨rfl, W, a, b, hW, ha, hb, rfl, rfl⟩, fr, hv, q⟩ := h
  match vs, hv with
  | [x, y, z], ⟨hx, hy, hz, _⟩ => ?_
  refine ⟨_, (pss_cons (ps_if (PW.pt (pw_or (pt_val (pe_ix (ixT (K := K) rfl) (pv 1) pe_int (fun _ _ => rfl))) (pw_or1 (pt_val (pe_ix (ixT (K := K) rfl) (pv 2) pe_int (fun _ _ => rfl)))))) (pss_one (ps_ret (pe_ix (ixT (K := K) rfl) (pv 2) pe_int (fun _ _ => rfl)))) pss_nil)
    (pss_cons (ps_if (PW.pt (pw_or (pt_cmpR (kNeD (K := K) rfl hr.units) (pe_def D_first_beyond hr (by omega) (by rfl) (pa_cons (pv 0) (pa_cons (pe_ix (ixT (K := K) rfl) (pv 1) pe_int (fun _ _ => rfl)) (pa_cons (pe_ix (ixT (K := K) rfl) (pv 2) pe_int (fun _ _ => rfl)) pa_nil)))) (pe_lst pa_nil) (nomark _)) (pw_or1 (pt_cmpR (kNeD (K := K) rfl hr.units) (pe_def D_spans_apart hr (by omega) (by rfl) (pa_cons (pe_ix (ixT (K := K) rfl) (pv 1) pe_int (fun _ _ => rfl)) (pa_cons (pe_ix (ixT (K := K) rfl) (pv 2) pe_int (fun _ _ => rfl)) pa_nil))) (pe_lst pa_nil) (nomark _))))) (pss_one (ps_ret pe_bl)) pss_nil)
    (pss_one (ps_ret (pe_cmpR (kEqD (K := K) rfl hr.units) (pe_def D_inner_beyond hr (by omega) (by rfl) (pa_cons (pv 0) (pa_cons (pe_ix (ixT (K := K) rfl) (pv 1) pe_int (fun _ _ => rfl)) (pa_cons (pe_ix (ixT (K := K) rfl) (pv 2) pe_int (fun _ _ => rfl)) pa_nil)))) (pe_lst pa_nil) (nomark _)))))), ?_⟩
  match a, b, ha, hb with
  | .any, .any, ha, hb =>
    rw [kindD_any] at hy hz
    refine st_yes fr (evt_or_t (evt_B (evd_ixT (K := K) (ds := [.bool true, .tuple [], .tuple [], .tuple []]) (var_ (by rfl) hy) evd_int (by rfl)))) fun H1 G1 e1 => ?_
    exact st_ret e1.fr (evd_ixT (ds := [.bool true, .tuple [], .tuple [], .tuple []]) (var_ (by rfl) (dsame hz e1.gg)) evd_int (by rfl)) (exq q e1)
  | .mk ns ss is, .any, ha, hb =>
    rw [kindD_any] at hz
    rw [kindD_mk] at hy
    refine st_yes fr (evt_or_f (evt_B (evd_ixT (K := K) (d := .bool false) (ds := [.bool false, .tuple _, .tuple _, .tuple _]) (var_ (by rfl) hy) evd_int (by rfl))) (evt_B (evd_ixT (K := K) (d := .bool true) (ds := [.bool true, .tuple [], .tuple [], .tuple []]) (var_ (by rfl) hz) evd_int (by rfl)))) fun H1 G1 e1 => ?_
    exact st_ret e1.fr (evd_ixT (ds := [.bool true, .tuple [], .tuple [], .tuple []]) (var_ (by rfl) (dsame hz e1.gg)) evd_int (by rfl)) (exq q e1)
  | .any, .mk ns ss is, ha, hb =>
    rw [kindD_any] at hy
    rw [kindD_mk] at hz
    refine st_yes fr (evt_or_t (evt_B (evd_ixT (K := K) (ds := [.bool true, .tuple [], .tuple [], .tuple []]) (var_ (by rfl) hy) evd_int (by rfl)))) fun H1 G1 e1 => ?_
    exact st_ret e1.fr (evd_ixT (d := .bool false) (ds := [.bool false, .tuple _, .tuple _, .tuple _]) (var_ (by rfl) (dsame hz e1.gg)) evd_int (by rfl)) (exq q e1)
  | .mk ns ss is, .mk ns' ss' is', ha, hb =>
    obtain ⟨a1, a2, a3, a4, a5⟩ := KOk.mk ha
    obtain ⟨b1, b2, b3, b4, b5⟩ := KOk.mk hb
    rw [kindD_mk] at hy hz
    refine st_no fr (evt_or_f (evt_B (evd_ixT (K := K) (d := .bool false) (ds := [.bool false, .tuple _, .tuple _, .tuple _]) (var_ (by rfl) hy) evd_int (by rfl))) (evt_B (evd_ixT (K := K) (d := .bool false) (ds := [.bool false, .tuple _, .tuple _, .tuple _]) (var_ (by rfl) hz) evd_int (by rfl)))) fun H1 G1 e1 => ?_
    walk_at "nx"
    replace hx := (PWeb C W).mono e1.gg hx
    replace hy := dsame hy e1.gg
    replace hz := dsame hz e1.gg
    have key : withinK (below W) (n + 1) (.mk ns ss is) (.mk ns' ss' is') = (nameIn (below W) ns ns' && ((apartS ss ss').isEmpty && is.all fun x => is'.any fun y => withinK (below W) n x y)) := rfl
    rw [key] at q
    have nzf : Nz 1 (.list ((beyondL (fun x => ns'.any fun y => below W x y) ns).map .str)) := nz_strs fun u hu => inW_ok hW u (a1 u (beyondL_mem hu))
    have nza : Nz 1 (.list ((apartS ss ss').map .int)) := nz_list fun d hd => by
      obtain ⟨i, _, rfl⟩ := List.mem_map.mp hd
      exact nz_int
    refine st_if (b := !nameIn (below W) ns ns' || !(apartS ss ss').isEmpty) e1.fr (evt_or (b := !nameIn (below W) ns ns') (c := !(apartS ss ss').isEmpty) (evt_test (K := K) (neD_ (d := .list ((beyondL (fun x => ns'.any fun y => below W x y) ns).map .str)) (e := .list []) ?_ (evd_lst (ds := []) eva_nil (by decide)) (nzf.shaped (by decide)) (by rfl) ?_)) fun c => (evt_test (K := K) (neD_ (d := .list ((apartS ss ss').map .int)) (e := .list []) ?_ (evd_lst (ds := []) eva_nil (by decide)) (nza.shaped (by decide)) (by rfl) ?_))) (fun c H2 G2 e2 => ?_) fun c H2 G2 e2 => ?_
    · exact ev_call (Φs := [PWeb C W, PD K (.tuple (ns.map .str)), PD K (.tuple (ns'.map .str))]) (eva_cons (var_ (by rfl) hx) (eva_cons (evd_ixT (ds := [.bool false, .tuple (ns.map .str), .tuple _, .tuple _]) (var_ (by rfl) hy) evd_int (by rfl)) (eva_cons (evd_ixT (ds := [.bool false, .tuple (ns'.map .str), .tuple _, .tuple _]) (var_ (by rfl) hz) evd_int (by rfl)) eva_nil))) ⟨rfl, W, ns, ns', hW, a1, a2, b2, rfl, rfl⟩ (.inl rfl)
    · rw [eqv_nil, List.isEmpty_map, beyondL_nil] <;> rfl
    · exact ev_call (Φs := [PD K (.tuple (ss.map spanD)), PD K (.tuple (ss'.map spanD))]) (eva_cons (evd_ixT (ds := [.bool false, .tuple (ns.map .str), .tuple (ss.map spanD), .tuple _]) (var_ (by rfl) hy) evd_int (by rfl)) (eva_cons (evd_ixT (ds := [.bool false, .tuple (ns'.map .str), .tuple (ss'.map spanD), .tuple _]) (var_ (by rfl) hz) evd_int (by rfl)) eva_nil)) ⟨rfl, ss, ss', by omega, by omega, rfl, rfl⟩ (.inl rfl)
    · rw [eqv_nil, List.isEmpty_map] <;> rfl
    · have e : (nameIn (below W) ns ns' && ((apartS ss ss').isEmpty && is.all fun x => is'.any fun y => withinK (below W) n x y)) = false := by
        cases h1 : nameIn (below W) ns ns' <;> cases h2 : (apartS ss ss').isEmpty <;> rw [h1, h2] at c <;> simp_all
      rw [e] at q
      exact st_ret e2.fr evd_bl (exq q (e1.trans e2))
    · have e : (nameIn (below W) ns ns' && ((apartS ss ss').isEmpty && is.all fun x => is'.any fun y => withinK (below W) n x y)) = is.all fun x => is'.any fun y => withinK (below W) n x y := by
        cases h1 : nameIn (below W) ns ns' <;> cases h2 : (apartS ss ss').isEmpty <;> rw [h1, h2] at c <;> simp_all
      rw [e] at q
      walk_at "nx"
      refine st_ret e2.fr (eqD_ (d := .list ((beyondL (fun x => is'.any fun y => withinK (below W) n x y) is).map (kindD n))) (e := .list []) ?_ (evd_lst (ds := []) eva_nil (by decide)) ((nz_kinds hW hn fun k hk => a5 k (beyondL_mem hk)).shaped (by decide)) (by rfl) ?_) (exq q (e1.trans e2))
      · exact ev_call (Φs := [PWeb C W, PD K (.tuple (is.map (kindD n))), PD K (.tuple (is'.map (kindD n)))]) (eva_cons (var_ (by rfl) ((PWeb C W).mono e2.gg hx)) (eva_cons (evd_ixT (ds := [.bool false, .tuple (ns.map .str), .tuple _, .tuple (is.map (kindD n))]) (var_ (by rfl) (dsame hy e2.gg)) evd_int (by rfl)) (eva_cons (evd_ixT (ds := [.bool false, .tuple (ns'.map .str), .tuple _, .tuple (is'.map (kindD n))]) (var_ (by rfl) (dsame hz e2.gg)) evd_int (by rfl)) eva_nil))) ⟨rfl, W, is, is', hW, a5, b5, a4, b4, rfl, rfl⟩ (.inl rfl)
      · rw [eqv_nil, List.isEmpty_map, beyondL_nil] <;> rfl
/-- nothing is promised -/
theorem def_vac {x : Str} {st : Stmt} {N ps : List Str} {k : Nat} {S : Ow → List Pr → Pr → Prop} (A : At K mg x st) (sc : FnScope N ps (defScope st))
    (bd : ∀ (kV doc pm : Value) (an : Option Addr) (cdv ct : Value) (us : List Value), us.length = ps.length → bindArgs (PySem.W.fnOf x x (defArgs st) (defBody st) (defScope st) .none kV doc pm an cdv ct) ⟨us, []⟩ = pure (ps.zip us)) (h : ∀ o Φs Ψ, ¬ S o Φs Ψ) : Def P w K mg base (k + 1) x ps (Fn S) :=
  def_of A sc bd (fun vs H Q E ⟨_, _, _, _, s, _⟩ => absurd s (h _ _ _)) fun f cdv A outer s H vs Q E hr ⟨_, _, _, _, s, _⟩ => absurd s (h _ _ _)
theorem ok_within (Z : Zs mg) (D_first_beyond : Def P w K mg base 3 "first_beyond" ["web", "names", "others"] (Fn (S_first_beyond K C))) (D_spans_apart : Def P w K mg base 4 "spans_apart" ["one", "other"] (Fn (S_spans_apart K)))
    (A1 : At K mg "inner_beyond" s_inner_beyond) (A2 : At K mg "within" s_within) : ∀ n ≤ 20, Def P w K mg base (5 + 2 * n) "within" ["web", "one", "other"] (Fn (S_within K C n))
  | 0, _ => def_vac A2 sc_within (fun _ _ _ _ _ _ us hl => match us, hl with | [_, _, _], _ => rfl) fun o Φs Ψ ⟨_, _, _, _, _, h, _⟩ => h
  | n + 1, h => by
    rw [show 5 + 2 * (n + 1) = (5 + 2 * n + 1) + 1 by omega]
    exact ok_within_step (by omega) (by omega) Z D_first_beyond D_spans_apart (ok_inner_beyond Z (ok_within Z D_first_beyond D_spans_apart A1 A2 n (by omega)) A1) A2
end
end Fm
set_option maxHeartbeats 4000000
/-! FmQ2: outmost, reformed, formed. -/
namespace Fm
open PySem PySem.Spec PyProof.Rows L2
local macro_rules | `(tactic| walk_at "nx") => `(tactic| try dsimp only [tSeq, tNext])
section
variable {P : Program} {w : World} {K : PySem.W.Frag} {mg : Str → Option Value} {base : Heap} {C : Addr}
theorem allp4 {Φ1 Φ2 Φ3 Φ4 : Pr} {G : Hp} {vs : List V} (h : AllP [Φ1, Φ2, Φ3, Φ4] G vs) : ∃ x y z u, vs = [x, y, z, u] ∧ Φ1.p G x ∧ Φ2.p G y ∧ Φ3.p G z ∧ Φ4.p G u := by
  match vs, h with
  | v :: us, h =>
    match us, h.2 with
    | v2 :: us, h2 =>
      obtain ⟨a, b, rfl, p, q⟩ := allp2 h2.2
      exact ⟨v, v2, a, b, rfl, h.1, h2.1, p, q⟩
    | [], h2 => exact h2.elim
  | [], h => exact h.elim
def anyD : PyData := .tuple [.bool true, .tuple [], .tuple [], .tuple []]
theorem ok_any_kind (cs : Cs K mg) (A : At K mg "any_kind" s_any_kind) : Def P w K mg base 1 "any_kind" [] (FnR K 0 fun ds d => d = anyD) := by
  obtain ⟨a, hANY, hD⟩ := cs.ANY
  refine def_of A sc_any_kind (fun _ _ _ _ _ _ us hl => match us, hl with | [], _ => rfl) (fun vs H Q E h => h.len) fun f cdv A outer s H vs Q E hr h => ?_
  obtain ⟨ds, d, G, hn, rfl, fr, hv, q⟩ := h.open
  refine ⟨_, (pss_one (ps_ret (kGc (by rfl) hANY))), ?_⟩
  exact st_ret fr (ev_c (hD G)) q
def S_outmost (K : PySem.W.Frag) (C : Addr) (n : Nat) : Ow → List Pr → Pr → Prop := fun o Φs Ψ => o = .no ∧ ∃ W, ∃ l : List (Kd n), WebIn W ∧ (∀ k ∈ l, KOk (inW W) n k) ∧ l.length ≤ 12 ∧ Φs = [PWeb C W, PD K (.list (l.map (kindD n)))] ∧ Ψ = PD K (.tuple ((outK (below W) n l).map (kindD n)))
theorem ok_outmost {n k : Nat} (hn : n ≤ 3) (Z : Zs mg) (D_within : Def P w K mg base k "within" ["web", "one", "other"] (Fn (S_within K C n))) (A : At K mg "outmost" s_outmost) : Def P w K mg base (k + 1) "outmost" ["web", "inners"] (Fn (S_outmost K C n)) := by
  refine def_of A sc_outmost (fun _ _ _ _ _ _ us hl => match us, hl with | [_, _], _ => rfl) (fun vs H Q E h => Fn.len (fun o Φs Ψ ⟨_, W, l, _, _, _, h3, _⟩ => by rw [h3] <;> rfl) h) fun f cdv A outer s H vs Q E hr h => ?_
  obtain ⟨_, _, _, G, ⟨rfl, W, l, hW, hl, hln, rfl, rfl⟩, fr, hv, q⟩ := h
  obtain ⟨x, y, rfl, hx, hy⟩ := allp2 hv
  refine ⟨_, (pss_cons (ps_set (i := 2) sc_outmost.nd rfl (.inl rfl) (pe_callB (kSortS (K := K) (w := w) rfl rfl rfl hr.units) (by rfl) Z.sorted bt_sorted (pa_cons (pe_callTy (kSet (K := K) (w := w) rfl rfl rfl (u72 hr)) (by rfl) Z.set bt_set (pa_cons (pv 1) pa_nil)) pa_nil)))
    (pss_cons (ps_set (i := 3) sc_outmost.nd rfl (.inl rfl) (pe_lst pa_nil))
    (pss_cons (ps_for PassesOwn.never rfl (kPiL (K := K) rfl (pv 2)) (pg_name (i := 4) sc_outmost.nd rfl (.inr rfl)) (pss_one (ps_if (pt_not (pt_val (pe_callB (kAny (K := K) rfl rfl) (by rfl) Z.any bt_any (pa_cons (pe_lc (own := [("other", 5)]) (g := gName 5) (tt := tYes) rfl sc_outmost.nd (kPiL (K := K) rfl (pv 2)) (blkOk_by (N := n_outmost) (sc := (defScope s_outmost)) (by decide +kernel)) (fun _ _ _ _ _ => (pg_name (i := 5) sc_outmost.nd rfl (.inl rfl))) (fun _ _ _ _ _ => pts_nil) (fun _ _ _ _ _ => (pe_and (pe_cmpR (kNeD (K := K) rfl hr.units) (pv 5) (pv 4) (nomark _)) (pe_one (pe_def D_within hr (by omega) (by rfl) (pa_cons (pv 0) (pa_cons (pv 4) (pa_cons (pv 5) pa_nil)))))))) pa_nil)))) (pss_one (ps_expr (kBm (K := K) rfl PySem.F.plainAttrs_list PySem.F.slot_list_append PySem.F.type_list_append mt_append (pv 3) (pa_cons (pv 4) pa_nil)))) pss_nil)))
    (pss_one (ps_ret (pe_callTy (crTup (K := K) rfl) (by rfl) Z.tuple bt_tuple (pa_cons (pv 3) pa_nil))))))), ?_⟩
  have hnm := inW_ok hW
  refine st_set (Φ := PD K (.list (((encK n).ss l).map (kindD n)))) fr (sortset_ (var_ (by rfl) (ps_list hy)) (hset_kinds hnm hn hl (by omega)) (srtb_kinds hnm hn hl (by omega)) (encK n).sorted_set) fun v0 H0 G0 e0 p0 => ?_
  walk_at "nx"
  generalize hL : (encK n).ss l = L at p0
  have hLm : ∀ k ∈ L, KOk (inW W) n k := fun k hk => hl k ((encK n).mem_ss.mp (hL ▸ hk))
  have hLl : L.length ≤ 12 := by rw [← hL]; exact Nat.le_trans ((encK n).len_ss l) hln
  have hq : outK (below W) n l = L.filter (outB (withinK (below W) n) L) := by unfold outK outF; rw [hL]
  rw [hq] at q
  clear hq
  refine st_new e0.fr fun p hp eA => ?_
  have l1 : Loc .no G0 _ p [] := Loc.new e0.fr hp
  have hx0 := (PWeb C W).mono e0.gg hx
  have hpH : H p = none := e0.none_back (fun z => z) hp
  walk_at "nx"
  refine for_ eA.fr (ito_listF (bs := L) (enc := kindD n) (var_ (by rfl) p0)) fun G1 H1 e1 => ?_
  have eA0 : Ex .no G G0 H _ := e0.trans eA
  refine ⟨fun i σ G' H' => (∃ acc, Lp .no G H G1 G' H' p acc ∧ DpAll K G' acc (((L.take i).filter (outB (withinK (below W) n) L)).map (kindD n))) ∧ ∃ a b : Option V, σ = [some x, some y, some v0, some (.ref p), a, b],
    ⟨⟨[], ⟨eA0.trans e1, Same.refl _, l1.ex e1⟩, by rw [List.take_zero]; exact .nil⟩, _, _, rfl⟩, fun i σ G H ⟨⟨acc, h, _⟩, _⟩ => ⟨h.gg, h.ex.fr.sub⟩, ?_, ?_⟩
  · rintro i φ u σ G2 H2 hi hu ⟨⟨acc, lp, hacc⟩, a, b, rfl⟩
    rw [List.getElem?_map] at hi
    obtain ⟨k, hk, rfl⟩ := Option.map_eq_some_iff.mp hi
    have hkm := hLm k (List.mem_of_getElem? hk)
    have hx2 := (PWeb C W).mono lp.ex.gg hx
    have hp2 := dsame p0 (e1.gg.trans lp.gg)
    have hal : acc.length ≤ 100 := by
      rw [dalen hacc, List.length_map]
      exact Nat.le_trans (List.length_filter_le _ _) (by rw [List.length_take]; omega)
    have nxt : (L.take (i + 1)).filter (outB (withinK (below W) n) L) = (L.take i).filter (outB (withinK (below W) n) L) ++ [k].filter (outB (withinK (below W) n) L) := by
      rw [List.take_add_one, hk, List.filter_append] <;> rfl
    have shp : ∀ o ∈ L, SeqAt.shaped (kindD n o) = true := fun o ho => ((kind_nz hnm n o (hLm o ho)).mono (by omega : 2 * n + 2 ≤ 60)).shaped (by decide)
    refine st_if (b := outB (withinK (below W) n) L k) lp.ex.fr (tnot_ (evt_B (anyLc (bs := L) (Θ := fun o => PD K (kindD n o)) (f := fun o => !decide (o = k) && withinK (below W) n k o) (by decide) (ito_listF (enc := kindD n) (var_ (by rfl) hp2)) (by omega) rfl fun o ho z G3 s3 hz => evd_and (neD_ (var_ (by rfl) hz) (var_ (by rfl) (dsame hu s3)) (shp o ho) (shp k (List.mem_of_getElem? hk)) (by rw [kind_eqv (nm := inW W)])) fun _ => ev_call (eva_cons (var_ (by rfl) ((PWeb C W).mono s3 hx2)) (eva_cons (var_ (by rfl) (dsame hu s3)) (eva_cons (var_ (by rfl) hz) eva_nil))) ⟨rfl, W, k, o, hW, hkm, hLm o ho, rfl, rfl⟩ (.inl rfl))) rfl) (fun c H3 G3 e3 => ?_) fun c H3 G3 e3 => ?_
    · have lp3 := lp.step e3
      refine st_append (K := K) lp3.ex.fr lp3.loc (by omega) (by rfl) (var_ (Φ := PD K (kindD n k)) (by rfl) (dsame hu e3.gg)) fun y9 H9 G9 e9 p9 fr9 l9 => ?_
      have lp9 := (lp3.step e9).put hpH (acc' := acc ++ [y9])
      refine ⟨G9, ⟨_, lp9, ?_⟩, _, _, rfl⟩
      rw [nxt, List.map_append, List.filter_cons_of_pos c]
      exact daapp (dasame hacc (e3.gg.trans e9.gg)) (.cons p9 .nil)
    · walk_at "nx"
      refine ⟨G3, ⟨acc, lp.step e3, ?_⟩, _, _, rfl⟩
      rw [nxt, List.filter_cons_of_neg (by rw [c]; decide), List.filter_nil, List.append_nil]
      exact dasame hacc e3.gg
  · rintro σ G2 H2 ⟨⟨acc, lp, hacc⟩, a, b, rfl⟩
    walk_at "nx"
    have E := lp.loc.took lp.ex hpH
    rw [List.length_map, List.take_length] at hacc
    exact st_ret E.fr (tupLD_ (ds := (L.filter (outB (withinK (below W) n) L)).map (kindD n)) (var_ (by rfl) (Dp.lst (.inl (.inl upd_same)) (dasame hacc (Same.new lp.loc.out))))) (exq q E)
/-! formed, reformed -/
def S_reformed (K : PySem.W.Frag) (C : Addr) (n : Nat) : Ow → List Pr → Pr → Prop := fun o Φs Ψ => o = .no ∧ ∃ W, ∃ a : Kd n, WebIn W ∧ KOk (inW W) n a ∧ Φs = [PWeb C W, PD K (kindD n a)] ∧ Ψ = PD K (kindD n (reK (below W) n a))
def S_formed (K : PySem.W.Frag) (C : Addr) (n : Nat) : Ow → List Pr → Pr → Prop := fun o Φs Ψ => o = .no ∧ ∃ W ns ss, ∃ is : List (Kd n), WebIn W ∧ KOk (inW W) (n + 1) (.mk ns ss is) ∧ Φs = [PWeb C W, PSq K (ns.map .str), PSq K (ss.map spanD), PSq K (is.map (kindD n))] ∧ Ψ = PD K (kindD (n + 1) (formK (below W) n ns ss is))
theorem ok_formed {n k : Nat} (hk : 3 ≤ k) (Z : Zs mg) (M_Web_tops : MDef P w K mg base 3 C "tops" ["self", "names"] (Fn (S_tops K C))) (D_spans_formed : Def P w K mg base 2 "spans_formed" ["spans"] (Fn (S_spans_formed K))) (D_reformed : Def P w K mg base k "reformed" ["web", "kind"] (Fn (S_reformed K C n))) (D_outmost : Def P w K mg base k "outmost" ["web", "inners"] (Fn (S_outmost K C n)))
    (A : At K mg "formed" s_formed) : Def P w K mg base (k + 1) "formed" ["web", "names", "spans", "inners"] (Fn (S_formed K C n)) := by
  refine def_of A sc_formed (fun _ _ _ _ _ _ us hl => match us, hl with | [_, _, _, _], _ => rfl) (fun vs H Q E h => Fn.len (fun o Φs Ψ ⟨_, W, l, _, _, _, _, h3, _⟩ => by rw [h3] <;> rfl) h) fun f cdv A outer s H vs Q E hr h => ?_
  obtain ⟨_, _, _, G, ⟨rfl, W, ns, ss, is, hW, hok, rfl, rfl⟩, fr, hv, q⟩ := h
  obtain ⟨a1, a2, a3, a4, a5⟩ := KOk.mk hok
  obtain ⟨x, y, z, u, rfl, hx, hy, hz, hu⟩ := allp4 hv
  refine ⟨_, (pss_cons (ps_setLc (i := 4) (own := [("inner", 5)]) (g := gName 5) (tt := tYes) rfl sc_formed.nd rfl rfl (sw_true rfl rfl rfl (by decide +kernel)) (kPiS (K := K) rfl (pv 3)) (blkOk_by (N := n_formed) (sc := (defScope s_formed)) (by decide +kernel)) (fun _ _ _ _ _ => (pg_name (i := 5) sc_formed.nd rfl (.inl rfl))) (fun _ _ _ _ _ => pts_nil) (fun _ _ _ _ _ => (pe_def D_reformed hr (by omega) (by rfl) (pa_cons (pv 0) (pa_cons (pv 5) pa_nil)))))
    (pss_one (ps_ret (pe_tup (pa_cons pe_bl (pa_cons (pe_callTy (crTup (K := K) rfl) (by rfl) Z.tuple bt_tuple (pa_cons (kMeth M_Web_tops hr (by omega) (pv 0) (pa_cons (pv 1) pa_nil)) pa_nil)) (pa_cons (pe_def D_spans_formed hr (by omega) (by rfl) (pa_cons (pv 2) pa_nil)) (pa_cons (pe_def D_outmost hr (by omega) (by rfl) (pa_cons (pv 0) (pa_cons (pv 4) pa_nil))) pa_nil)))))))), ?_⟩
  refine st_set (Φ := PD K (.list ((is.map (reK (below W) n)).map (kindD n)))) fr ?_ fun v1 H1 G1 e1 p1 => ?_
  · rw [List.map_map]
    exact lcd1 (bs := is) (Θ := fun i => PD K (kindD n i)) (by decide) (ito_seqF (enc := kindD n) (var_ (by rfl) hu)) (by omega) fun i hi v G1 s1 hv1 => ev_call (eva_cons (var_ (by rfl) ((PWeb C W).mono s1 hx)) (eva_cons (var_ (by rfl) hv1) eva_nil)) ⟨rfl, W, i, hW, a5 i hi, rfl, rfl⟩ (.inl rfl)
  · walk_at "nx"
    replace hx := (PWeb C W).mono e1.gg hx
    have key : kindD (n + 1) (formK (below W) n ns ss is) = .tuple [.bool false, .tuple ((topsB (below W) ns).map .str), .tuple ((formedS ss).map spanD), .tuple ((outK (below W) n (is.map (reK (below W) n))).map (kindD n))] := by
      unfold formK
      exact kindD_mk _ _ _ _
    rw [key] at q
    refine st_ret e1.fr (evd_tup (ds := [.bool false, .tuple ((topsB (below W) ns).map .str), .tuple ((formedS ss).map spanD), .tuple ((outK (below W) n (is.map (reK (below W) n))).map (kindD n))]) (eva_cons evd_bl (eva_cons (tupLD_ ?_) (eva_cons ?_ (eva_cons ?_ eva_nil)))) (by simp)) (exq q e1)
    · exact ev_meth (var_ (by rfl) hx) (pweb_ins (by decide)) (eva_cons (var_ (by rfl) ((PSq K (ns.map .str)).mono e1.gg hy)) eva_nil) ⟨rfl, W, ns, hW, a1, by omega, rfl, rfl⟩
    · exact ev_call (eva_cons (var_ (by rfl) ((PSq K (ss.map spanD)).mono e1.gg hz)) eva_nil) ⟨rfl, ss, by omega, rfl, rfl⟩ (.inl rfl)
    · exact ev_call (Φs := [PWeb C W, PD K (.list ((is.map (reK (below W) n)).map (kindD n)))]) (eva_cons (var_ (by rfl) hx) (eva_cons (var_ (by rfl) p1) eva_nil)) ⟨rfl, W, is.map (reK (below W) n), hW, fun k hk => by
        obtain ⟨i, hi, rfl⟩ := List.mem_map.mp hk
        exact reK_ok n i (a5 i hi), by rw [List.length_map]; exact a4, rfl, rfl⟩ (.inl rfl)
theorem ok_reformed {n k : Nat} (cs : Cs K mg) (D_formed : Def P w K mg base k "formed" ["web", "names", "spans", "inners"] (Fn (S_formed K C n))) (A : At K mg "reformed" s_reformed) : Def P w K mg base (k + 1) "reformed" ["web", "kind"] (Fn (S_reformed K C (n + 1))) := by
  obtain ⟨aANY, hANY, hD⟩ := cs.ANY
  refine def_of A sc_reformed (fun _ _ _ _ _ _ us hl => match us, hl with | [_, _], _ => rfl) (fun vs H Q E h => Fn.len (fun o Φs Ψ ⟨_, W, l, _, _, h3, _⟩ => by rw [h3] <;> rfl) h) fun f cdv A outer s H vs Q E hr h => ?_
  obtain ⟨_, _, _, G, ⟨rfl, W, a, hW, hok, rfl, rfl⟩, fr, hv, q⟩ := h
  obtain ⟨x, y, rfl, hx, hy⟩ := allp2 hv
  refine ⟨_, (pss_cons (ps_if (pt_val (pe_ix (ixT (K := K) rfl) (pv 1) pe_int (fun _ _ => rfl))) (pss_one (ps_ret (kGc (by rfl) hANY))) pss_nil)
    (pss_one (ps_ret (pe_def D_formed hr (by omega) (by rfl) (pa_cons (pv 0) (pa_cons (pe_ix (ixT (K := K) rfl) (pv 1) pe_int (fun _ _ => rfl)) (pa_cons (pe_ix (ixT (K := K) rfl) (pv 1) pe_int (fun _ _ => rfl)) (pa_cons (pe_ix (ixT (K := K) rfl) (pv 1) pe_int (fun _ _ => rfl)) pa_nil)))))))), ?_⟩
  match a, hok with
  | .any, _ =>
    rw [kindD_any] at hy
    refine st_yes fr (evt_B (evd_ixT (K := K) (d := .bool true) (ds := [.bool true, .tuple [], .tuple [], .tuple []]) (var_ (by rfl) hy) evd_int (by rfl))) fun H1 G1 e1 => ?_
    exact st_ret e1.fr (ev_c (hD G1)) (exq q e1)
  | .mk ns ss is, hok =>
    rw [kindD_mk] at hy
    refine st_no fr (evt_B (evd_ixT (K := K) (d := .bool false) (ds := [.bool false, .tuple (ns.map .str), .tuple (ss.map spanD), .tuple (is.map (kindD n))]) (var_ (by rfl) hy) evd_int (by rfl))) fun H1 G1 e1 => ?_
    walk_at "nx"
    have hy1 := dsame hy e1.gg
    have part : ∀ {j : Int} {ds : List PyData}, atI ([.bool false, .tuple (ns.map .str), .tuple (ss.map spanD), .tuple (is.map (kindD n))] : List PyData) j = some (.tuple ds) → EvP .no (tOp (rIxT K) (tVar 1) (tC (.int j))) (L2.start n_reformed [x, y]) G1 (PSq K ds) := fun h => (evd_ixT (K := K) (var_ (by rfl) hy1) evd_int h).imp fun _ _ _ p => ps_tup p
    exact st_ret e1.fr (ev_call (eva_cons (var_ (by rfl) ((PWeb C W).mono e1.gg hx)) (eva_cons (part (by rfl)) (eva_cons (part (by rfl)) (eva_cons (part (by rfl)) eva_nil)))) ⟨rfl, W, ns, ss, is, hW, hok, rfl, rfl⟩ (.inl rfl)) (exq q e1)
theorem ok_forms (cs : Cs K mg) (Z : Zs mg) (M_Web_tops : MDef P w K mg base 3 C "tops" ["self", "names"] (Fn (S_tops K C))) (D_spans_formed : Def P w K mg base 2 "spans_formed" ["spans"] (Fn (S_spans_formed K)))
    (D_within : ∀ n ≤ 20, Def P w K mg base (5 + 2 * n) "within" ["web", "one", "other"] (Fn (S_within K C n))) (A1 : At K mg "outmost" s_outmost) (A2 : At K mg "formed" s_formed) (A3 : At K mg "reformed" s_reformed) :
    ∀ n ≤ 3, Def P w K mg base (10 + 2 * n) "reformed" ["web", "kind"] (Fn (S_reformed K C n)) ∧ Def P w K mg base (11 + 2 * n) "formed" ["web", "names", "spans", "inners"] (Fn (S_formed K C n)) := by
  have step : ∀ n ≤ 3, Def P w K mg base (10 + 2 * n) "reformed" ["web", "kind"] (Fn (S_reformed K C n)) → Def P w K mg base (11 + 2 * n) "formed" ["web", "names", "spans", "inners"] (Fn (S_formed K C n)) := fun n hn D => by
    rw [show 11 + 2 * n = (10 + 2 * n) + 1 by omega]
    exact ok_formed (by omega) Z M_Web_tops D_spans_formed D ((ok_outmost hn Z (D_within n (by omega)) A1).mono (by omega)) A2
  intro n
  induction n with
  | zero =>
    intro h
    have D0 : Def P w K mg base (10 + 2 * 0) "reformed" ["web", "kind"] (Fn (S_reformed K C 0)) := def_vac A3 sc_reformed (fun _ _ _ _ _ _ us hl => match us, hl with | [_, _], _ => rfl) fun o Φs Ψ ⟨_, _, _, _, h, _⟩ => h
    exact ⟨D0, step 0 h D0⟩
  | succ n ih =>
    intro h
    have D1 : Def P w K mg base (10 + 2 * (n + 1)) "reformed" ["web", "kind"] (Fn (S_reformed K C (n + 1))) := by
      rw [show 10 + 2 * (n + 1) = (11 + 2 * n) + 1 by omega]
      exact ok_reformed cs (ih (by omega)).2 A3
    exact ⟨D1, step (n + 1) h D1⟩
end
end Fm
set_option maxHeartbeats 4000000
/-! FmP2: rows of parts, by levels; their texts. -/
namespace Fm
open PySem PySem.Spec PyProof.Rows L2
inductive PF (α : Type) where
  | name (x : Str)
  | none
  | any
  | span (s : Span)
  | inner (r : List α)
  deriving DecidableEq
def Prt : Nat → Type
  | 0 => Empty
  | n + 1 => PF (Prt n)
def prtDec : ∀ n, DecidableEq (Prt n)
  | 0 => inferInstanceAs (DecidableEq Empty)
  | n + 1 => by
    have := prtDec n
    exact inferInstanceAs (DecidableEq (PF (Prt n)))
instance (n : Nat) : DecidableEq (Prt n) := prtDec n
def joinB (l : List Str) : Str := Str.join "|" l
def partF {α : Type} (t : α → Str) : PF α → Str
  | .name x => x
  | .none => "none"
  | .any => "any"
  | .span s => spanT s
  | .inner r => "[" ++ joinB (r.map t) ++ "]"
def partT : ∀ n, Prt n → Str
  | 0 => fun p => nomatch p
  | n + 1 => partF (partT n)
def rowT (n : Nat) (r : List (Prt n)) : Str := joinB (r.map (partT n))
theorem partT_name (n : Nat) (x : Str) : partT (n + 1) (.name x) = x := rfl
theorem partT_none (n : Nat) : partT (n + 1) .none = "none" := rfl
theorem partT_any (n : Nat) : partT (n + 1) .any = "any" := rfl
theorem partT_span (n : Nat) (s : Span) : partT (n + 1) (.span s) = spanT s := rfl
theorem partT_inner (n : Nat) (r : List (Prt n)) : partT (n + 1) (.inner r) = "[" ++ rowT n r ++ "]" := rfl
/-- parts that the program can read -/
def POkF (nm : Str → Prop) {α : Type} (ok : α → Prop) : PF α → Prop
  | .name x => nm x
  | .none => True
  | .any => True
  | .span s => SpanOk s
  | .inner r => r ≠ [] ∧ r.length ≤ 3 ∧ ∀ p ∈ r, ok p
def POk (nm : Str → Prop) : ∀ n, Prt n → Prop
  | 0 => fun _ => True
  | n + 1 => POkF nm (POk nm n)
structure ROk (nm : Str → Prop) (n : Nat) (r : List (Prt n)) : Prop where
  ne : r ≠ []
  few : r.length ≤ 12
  ok : ∀ p ∈ r, POk nm n p
theorem POk.inner {nm : Str → Prop} {n : Nat} {r : List (Prt n)} (h : POk nm (n + 1) (.inner r)) : r ≠ [] ∧ r.length ≤ 3 ∧ ∀ p ∈ r, POk nm n p := h
theorem POk.row {nm : Str → Prop} {n : Nat} {r : List (Prt n)} (h : POk nm (n + 1) (.inner r)) : ROk nm n r := ⟨h.inner.1, by have := h.inner.2.1; omega, h.inner.2.2⟩
/-! ### brackets -/
def Nest (l : List Nat) : Prop := ∀ (d : Nat) (rest : List Nat), bal (d + 1) (l ++ rest) = bal (d + 1) rest
theorem nest_nil : Nest [] := fun _ _ => rfl
theorem Nest.app {a b : List Nat} (h : Nest a) (g : Nest b) : Nest (a ++ b) := fun d r => by rw [List.append_assoc, h, g]
theorem nest_one {c : Nat} (h : c ≠ 91 ∧ c ≠ 93) : Nest [c] := fun d r => by
  rw [List.singleton_append, bal_cons, if_neg h.1, if_neg h.2, if_neg (by omega)]
theorem nest_flat : ∀ {l : List Nat}, 91 ∉ l → 93 ∉ l → Nest l
  | [], _, _ => nest_nil
  | c :: l, h, g => (nest_one ⟨fun e => h (e ▸ List.mem_cons_self), fun e => g (e ▸ List.mem_cons_self)⟩ : Nest [c]).app (nest_flat (fun z => h (List.mem_cons_of_mem _ z)) fun z => g (List.mem_cons_of_mem _ z))
theorem Nest.br {a : List Nat} (h : Nest a) : Nest (91 :: (a ++ [93])) := fun d r => by
  rw [List.cons_append, List.append_assoc, bal_cons, if_pos rfl, h, List.singleton_append, bal_cons, if_neg (by decide), if_pos rfl]
  simp
theorem bal_br {a : List Nat} (h : Nest a) : bal 0 (91 :: (a ++ [93])) = true := by
  rw [bal_cons, if_pos rfl, h]
  rfl
theorem bal_flat : ∀ {l : List Nat}, 91 ∉ l → 93 ∉ l → 124 ∉ l → bal 0 l = true
  | [], _, _, _ => rfl
  | c :: l, h, g, k => by
    have h1 : c ≠ 91 := fun e => h (e ▸ List.mem_cons_self)
    have h2 : c ≠ 93 := fun e => g (e ▸ List.mem_cons_self)
    have h3 : c ≠ 124 := fun e => k (e ▸ List.mem_cons_self)
    rw [bal_cons, if_neg h1, if_neg h2, if_neg fun e => h3 e.1]
    exact bal_flat (fun z => h (List.mem_cons_of_mem _ z)) (fun z => g (List.mem_cons_of_mem _ z)) fun z => k (List.mem_cons_of_mem _ z)
theorem nest_join : ∀ {l : List Str}, (∀ x ∈ l, Nest (sg x)) → Nest (sg (joinB l))
  | [], _ => nest_nil
  | [x], h => h x List.mem_cons_self
  | x :: y :: r, h => by
    unfold joinB
    rw [sg_join_cons]
    exact ((h x List.mem_cons_self).app (nest_one (by decide))).app (nest_join (l := y :: r) fun z hz => h z (List.mem_cons_of_mem _ hz))
theorem spanT_free {s : Span} {k : Nat} (h : k ≠ 45 ∧ (k < 48 ∨ 57 < k)) (h2 : k ≠ 46) : k ∉ sg (spanT s) := by
  unfold spanT
  split
  · exact endT_free h
  · rw [sg_app, sg_app, show sg (".." : Str) = [46, 46] from rfl]
    simp only [List.mem_append, not_or]
    refine ⟨⟨endT_free h, ?_⟩, endT_free h⟩
    simp [h2]
theorem sg_br (x : Str) : sg ("[" ++ x ++ "]") = 91 :: (sg x ++ [93]) := by
  rw [sg_app, sg_app]
  rfl
/-- names that are letters alone -/
def NmOk (nm : Str → Prop) : Prop := ∀ x, nm x → isName x = true
theorem part_nest {nm : Str → Prop} (hn : NmOk nm) : ∀ (n : Nat) (p : Prt n), POk nm n p → Nest (sg (partT n p)) ∧ bal 0 (sg (partT n p)) = true
  | 0, p, _ => nomatch p
  | n + 1, .name x, h => ⟨nest_flat (isName_free (hn x h) (by decide)) (isName_free (hn x h) (by decide)), bal_flat (isName_free (hn x h) (by decide)) (isName_free (hn x h) (by decide)) (isName_free (hn x h) (by decide))⟩
  | n + 1, .none, _ => by
    rw [partT_none]
    exact ⟨nest_flat (by decide) (by decide), bal_flat (by decide) (by decide) (by decide)⟩
  | n + 1, .any, _ => by
    rw [partT_any]
    exact ⟨nest_flat (by decide) (by decide), bal_flat (by decide) (by decide) (by decide)⟩
  | n + 1, .span s, _ => by
    rw [partT_span]
    exact ⟨nest_flat (spanT_free (by decide) (by decide)) (spanT_free (by decide) (by decide)), bal_flat (spanT_free (by decide) (by decide)) (spanT_free (by decide) (by decide)) (spanT_free (by decide) (by decide))⟩
  | n + 1, .inner r, h => by
    rw [partT_inner, sg_br]
    have hN : Nest (sg (rowT n r)) := nest_join fun x hx => by
      obtain ⟨p, hp, rfl⟩ := List.mem_map.mp hx
      exact (part_nest hn n p (h.inner.2.2 p hp)).1
    exact ⟨hN.br, bal_br hN⟩
/-! ### lengths -/
def lenB : Nat → Nat
  | 0 => 0
  | n + 1 => 130 + 3 * (lenB n + 1)
theorem spanT_len {s : Span} (h : SpanOk s) : (spanT s).length ≤ 124 := by
  have l1 := endT_len h.lo
  have l2 := endT_len h.hi
  unfold spanT
  split
  · omega
  · rw [len_sg] at l1 l2
    rw [len_sg, sg_app, sg_app, show sg (".." : Str) = [46, 46] from rfl, List.length_append, List.length_append]
    simp only [List.length_cons, List.length_nil]
    omega
theorem part_len {nm : Str → Prop} (hn : NmOk nm) : ∀ (n : Nat) (p : Prt n), POk nm n p → (partT n p).length ≤ lenB n
  | 0, p, _ => nomatch p
  | n + 1, .name x, h => by
    have := isName_len (hn x h)
    rw [partT_name, lenB]
    omega
  | n + 1, .none, _ => by
    rw [partT_none, lenB, show ("none" : Str).length = 4 from rfl]
    omega
  | n + 1, .any, _ => by
    rw [partT_any, lenB, show ("any" : Str).length = 3 from rfl]
    omega
  | n + 1, .span s, h => by
    have := spanT_len (s := s) h
    rw [partT_span, lenB]
    omega
  | n + 1, .inner r, h => by
    have h1 := join_len (s := "|") (B := lenB n) (ps := r.map (partT n)) fun x hx => by
      obtain ⟨p, hp, rfl⟩ := List.mem_map.mp hx
      exact part_len hn n p (h.inner.2.2 p hp)
    rw [List.length_map, show ("|" : Str).length = 1 from rfl] at h1
    have h2 : r.length * lenB n ≤ 3 * lenB n := Nat.mul_le_mul_right _ h.inner.2.1
    have h3 := h.inner.2.1
    rw [partT_inner, len_sg, sg_br, List.length_cons, List.length_append, List.length_singleton, ← len_sg, lenB]
    unfold rowT joinB
    omega
theorem lenB_le : ∀ n ≤ 4, lenB n ≤ 6000 := by decide
theorem row_len {nm : Str → Prop} (hn : NmOk nm) {n : Nat} (h4 : n ≤ 4) {r : List (Prt n)} (h : ROk nm n r) : (rowT n r).length ≤ 80000 := by
  have h1 := join_len (s := "|") (B := lenB n) (ps := r.map (partT n)) fun x hx => by
    obtain ⟨p, hp, rfl⟩ := List.mem_map.mp hx
    exact part_len hn n p (h.ok p hp)
  rw [List.length_map, show ("|" : Str).length = 1 from rfl] at h1
  have h2 : r.length * lenB n ≤ 12 * 6000 := Nat.mul_le_mul h.few (lenB_le n h4)
  have h3 := h.few
  unfold rowT joinB
  omega
/-! ### what a row holds -/
def hasAny {α : Type} (r : List (PF α)) : Bool := r.any fun p => match p with | .any => true | _ => false
def namesP {α : Type} (r : List (PF α)) : List Str := r.filterMap fun p => match p with | .name x => some x | _ => Option.none
def spansP {α : Type} (r : List (PF α)) : List Span := r.filterMap fun p => match p with | .span s => some s | _ => Option.none
def innersP {α : Type} (r : List (PF α)) : List (List α) := r.filterMap fun p => match p with | .inner s => some s | _ => Option.none
def wordsP : ∀ n, List (Prt n) → List Str
  | 0 => fun _ => []
  | n + 1 => fun r => namesP (α := Prt n) r ++ ((innersP (α := Prt n) r).flatMap (wordsP n))
def kindP (bel : Str → Str → Bool) : ∀ n, List (Prt n) → Kd n
  | 0 => fun _ => ()
  | n + 1 => fun r => if hasAny (α := Prt n) r then .any else formK bel n (namesP (α := Prt n) r) (spansP (α := Prt n) r) ((innersP (α := Prt n) r).map (kindP bel n))
end Fm
set_option maxHeartbeats 4000000
/-! FmY: the class Parts: put. -/
namespace Fm
open PySem PySem.Spec PyProof.Rows L2
local macro_rules | `(tactic| walk_at "nx") => `(tactic| try dsimp only [tSeq, tNext])
structure PCls (K : PySem.W.Frag) (C : Addr) : Prop where
  cls : Cls K C
  whole : NoAttr K C "whole"
  words : NoAttr K C "words"
  stretches : NoAttr K C "stretches"
  within_it : NoAttr K C "within_it"
abbrev pfs (b : Bool) (w s t : V) : List (Str × V) := [("whole", .bl b), ("words", w), ("stretches", s), ("within_it", t)]
/-- an instance of Parts, done -/
def PPartsF (K : PySem.W.Frag) (C : Addr) {α : Type} (sub : List α → Pr) (r : List (PF α)) : Pr := ⟨fun G v => ∃ a dx w s t, v = .ref a ∧ G a = some (.ins C dx (pfs (hasAny r) w s t)) ∧ (PN K ((namesP r).map .str)).p G w ∧ (PN K ((spansP r).map spanD)).p G s ∧ (PLn ((innersP r).map sub)).p G t,
  fun u ⟨a, dx, w, s, t, e, h, h1, h2, h3⟩ => ⟨a, dx, w, s, t, e, u a _ h, Pr.mono _ u h1, Pr.mono _ u h2, Pr.mono _ u h3⟩⟩
def PParts (K : PySem.W.Frag) (C : Addr) : ∀ n, List (Prt n) → Pr
  | 0 => fun _ => PV .non
  | n + 1 => fun r => PPartsF K C (PParts K C n) r
/-- one that is being made -/
structure Pst (K : PySem.W.Frag) (C : Addr) {α : Type} (sub : List α → Pr) (G H : Hp) (x dx w s t : Addr) (r : List (PF α)) : Prop where
  me : LocU .no G H x (.ins C dx (pfs (hasAny r) (.ref w) (.ref s) (.ref t)))
  ws : Loc .no G H w ((namesP r).map V.str)
  ss : ∃ xs, Loc .no G H s xs ∧ DpAll K G xs ((spansP r).map spanD)
  ts : ∃ xs, Loc .no G H t xs ∧ AllP ((innersP r).map sub) G xs
theorem Pst.ex {K : PySem.W.Frag} {C : Addr} {α : Type} {sub : List α → Pr} {G H G' H' : Hp} {x dx w s t : Addr} {r : List (PF α)} (p : Pst K C sub G H x dx w s t r) (e : Ex .no G G' H H') : Pst K C sub G' H' x dx w s t r where
  me := p.me.ex e
  ws := Loc.ex p.ws e
  ss := by
    obtain ⟨xs, a, b⟩ := p.ss
    exact ⟨xs, Loc.ex a e, dasame b e.gg⟩
  ts := by
    obtain ⟨xs, a, b⟩ := p.ts
    exact ⟨xs, Loc.ex a e, b.mono e.gg⟩
structure Far (x w s t : Addr) : Prop where
  xw : x ≠ w
  xs : x ≠ s
  xt : x ≠ t
  ws : w ≠ s
  wt : w ≠ t
  st : s ≠ t
structure Nn (H : Hp) (x w s t : Addr) : Prop where
  x : H x = none
  w : H w = none
  s : H s = none
  t : H t = none
theorem st_appendF {o : Ow} {K : PySem.W.Frag} {σ : L2.St} {G H : Hp} {te : TE} {D : Ends} {n : Nat} {x p C dx : Addr} {fs : List (Str × V)} {f : Str} {acc : List V} {Φ : Pr} (lx : LocU o G H x (.ins C dx fs)) (c : Cls K C) (na : NoAttr K C f) (hv : σ[n]? = some (some (.ref x))) (hl : fs.lookup f = some (.ref p))
    (fr : Fr o G H) (l : Loc o G H p acc) (hn : acc.length < 100000) (h : EvP o te σ G Φ)
    (q : ∀ y H1 G1, Ex o G G1 H H1 → Φ.p G1 y → D.nx σ (upd H1 p (.lst (acc ++ [y])))) : tDrop (tBM K "list" rAppend (tFld K (tVar n) f) (tCons te tNil)) D σ H := by
  show tFld K (tVar n) f σ H fun x H1 => tyV K "list" x H1 ∧ (tCons te tNil) σ H1 fun xs H2 => rAppend x xs H2 fun _ H3 => D.nx σ H3
  exact run_fldL lx c na hv hl ⟨.inl ⟨rfl, acc, .inl (.inl l.at_)⟩, h H fr _ fun y H1 G1 e py => by
    have l1 := l.ex e
    exact ⟨p, acc, y, rfl, rfl, l1.at_, Nat.lt_of_lt_of_le hn (by decide), q y H1 G1 e py⟩⟩
section
variable {K : PySem.W.Frag} {C : Addr} {α : Type} {sub : List α → Pr} {G H : Hp} {x dx w s t : Addr} {r : List (PF α)}
theorem namesP_app (r s : List (PF α)) : namesP (r ++ s) = namesP r ++ namesP s := List.filterMap_append
theorem spansP_app (r s : List (PF α)) : spansP (r ++ s) = spansP r ++ spansP s := List.filterMap_append
theorem innersP_app (r s : List (PF α)) : innersP (r ++ s) = innersP r ++ innersP s := List.filterMap_append
theorem hasAny_app (r s : List (PF α)) : hasAny (r ++ s) = (hasAny r || hasAny s) := List.any_append
theorem namesP_len (r : List (PF α)) : (namesP r).length ≤ r.length := List.length_filterMap_le _ _
theorem spansP_len (r : List (PF α)) : (spansP r).length ≤ r.length := List.length_filterMap_le _ _
theorem innersP_len (r : List (PF α)) : (innersP r).length ≤ r.length := List.length_filterMap_le _ _
theorem Pst.none (p : Pst K C sub G H x dx w s t r) : Pst K C sub G H x dx w s t (r ++ [.none]) where
  me := by rw [hasAny_app, show hasAny [(PF.none : PF α)] = false from rfl, Bool.or_false]; exact p.me
  ws := by rw [namesP_app, show namesP [(PF.none : PF α)] = [] from rfl, List.append_nil]; exact p.ws
  ss := by rw [spansP_app, show spansP [(PF.none : PF α)] = [] from rfl, List.append_nil]; exact p.ss
  ts := by rw [innersP_app, show innersP [(PF.none : PF α)] = [] from rfl, List.append_nil]; exact p.ts
theorem Pst.any (p : Pst K C sub G H x dx w s t r) (f : Far x w s t) : Pst K C sub G (upd H x (.ins C dx (pfs true (.ref w) (.ref s) (.ref t)))) x dx w s t (r ++ [.any]) where
  me := by rw [hasAny_app, show hasAny [(PF.any : PF α)] = true from rfl, Bool.or_true]; exact p.me.put
  ws := by rw [namesP_app, show namesP [(PF.any : PF α)] = [] from rfl, List.append_nil]; exact LocU.other p.ws (Ne.symm f.xw)
  ss := by
    rw [spansP_app, show spansP [(PF.any : PF α)] = [] from rfl, List.append_nil]
    obtain ⟨xs, a, b⟩ := p.ss
    exact ⟨xs, LocU.other a (Ne.symm f.xs), b⟩
  ts := by
    rw [innersP_app, show innersP [(PF.any : PF α)] = [] from rfl, List.append_nil]
    obtain ⟨xs, a, b⟩ := p.ts
    exact ⟨xs, LocU.other a (Ne.symm f.xt), b⟩
theorem Pst.name {y : Str} (p : Pst K C sub G H x dx w s t r) (f : Far x w s t) : Pst K C sub G (upd H w (.lst ((namesP r).map V.str ++ [.str y]))) x dx w s t (r ++ [.name y]) where
  me := by rw [hasAny_app, show hasAny [(PF.name y : PF α)] = false from rfl, Bool.or_false]; exact p.me.other f.xw
  ws := by rw [namesP_app, show namesP [(PF.name y : PF α)] = [y] from rfl, List.map_append]; exact LocU.put p.ws
  ss := by
    rw [spansP_app, show spansP [(PF.name y : PF α)] = [] from rfl, List.append_nil]
    obtain ⟨xs, a, b⟩ := p.ss
    exact ⟨xs, LocU.other a (Ne.symm f.ws), b⟩
  ts := by
    rw [innersP_app, show innersP [(PF.name y : PF α)] = [] from rfl, List.append_nil]
    obtain ⟨xs, a, b⟩ := p.ts
    exact ⟨xs, LocU.other a (Ne.symm f.wt), b⟩
theorem Pst.span {y : Span} {xs : List V} {v : V} (p : Pst K C sub G H x dx w s t r) (f : Far x w s t) (hx : Loc .no G H s xs) (hd : DpAll K G xs ((spansP r).map spanD)) (hv : Dp K G v (spanD y)) : Pst K C sub G (upd H s (.lst (xs ++ [v]))) x dx w s t (r ++ [.span y]) where
  me := by rw [hasAny_app, show hasAny [(PF.span y : PF α)] = false from rfl, Bool.or_false]; exact p.me.other f.xs
  ws := by rw [namesP_app, show namesP [(PF.span y : PF α)] = [] from rfl, List.append_nil]; exact LocU.other p.ws f.ws
  ss := by
    rw [spansP_app, show spansP [(PF.span y : PF α)] = [y] from rfl, List.map_append]
    exact ⟨_, LocU.put hx, daapp hd (.cons hv .nil)⟩
  ts := by
    rw [innersP_app, show innersP [(PF.span y : PF α)] = [] from rfl, List.append_nil]
    obtain ⟨xs, a, b⟩ := p.ts
    exact ⟨xs, LocU.other a (Ne.symm f.st), b⟩
theorem Pst.inner {y : List α} {xs : List V} {v : V} (p : Pst K C sub G H x dx w s t r) (f : Far x w s t) (hx : Loc .no G H t xs) (hd : AllP ((innersP r).map sub) G xs) (hv : (sub y).p G v) : Pst K C sub G (upd H t (.lst (xs ++ [v]))) x dx w s t (r ++ [.inner y]) where
  me := by rw [hasAny_app, show hasAny [(PF.inner y : PF α)] = false from rfl, Bool.or_false]; exact p.me.other f.xt
  ws := by rw [namesP_app, show namesP [(PF.inner y : PF α)] = [] from rfl, List.append_nil]; exact LocU.other p.ws f.wt
  ss := by
    rw [spansP_app, show spansP [(PF.inner y : PF α)] = [] from rfl, List.append_nil]
    obtain ⟨xs, a, b⟩ := p.ss
    exact ⟨xs, LocU.other a f.st, b⟩
  ts := by
    rw [innersP_app, show innersP [(PF.inner y : PF α)] = [y] from rfl, List.map_append]
    exact ⟨_, LocU.put hx, AllP.app hd ⟨hv, True.intro⟩⟩
end
/-- what put is given -/
def PutP (K : PySem.W.Frag) (C : Addr) (n : Nat) : Sp := fun vs H Q _ => ∃ (nm : Str → Prop) (G0 G H0 : Hp) (x dx w s t : Addr) (r : List (PF (Prt n))) (p : PF (Prt n)) (deep : Int) (u : V), NmOk nm ∧ vs = [.ref x, u, .int deep] ∧ Ex .no G0 G H0 H ∧ Nn H0 x w s t ∧ Far x w s t ∧ Pst K C (PParts K C n) G H x dx w s t r ∧
  Dp K G u (.str (partT (n + 1) p)) ∧ POk nm (n + 1) p ∧ 0 ≤ deep ∧ deep + (n + 1) = 4 ∧ r.length ≤ 100 ∧ ∀ H' G', Ex .no G0 G' H0 H' → Same G G' → Pst K C (PParts K C n) G' H' x dx w s t (r ++ [p]) → Q .non H'
def S_Parts (K : PySem.W.Frag) (C : Addr) (n : Nat) : Ow → List Pr → Pr → Prop := fun o Φs Ψ => o = .no ∧ ∃ nm, ∃ r : List (Prt n), ∃ deep : Int, NmOk nm ∧ ROk nm n r ∧ 0 ≤ deep ∧ deep + n = 4 ∧ Φs = [PD K (.str (rowT n r)), PD K (.int deep)] ∧ Ψ = PParts K C n r
theorem notName {x : Str} {c : Nat} (h : c ∈ sg x) (hc : c < 97 ∨ 122 < c) : isName x = false := by
  cases z : isName x with
  | false => rfl
  | true =>
    have := isName_let z c h
    omega
theorem name_ne {x y : Str} (h : isName x = true) (hy : isName y = false) : x ≠ y := fun e => by rw [e, hy] at h; cases h
theorem spanT_has (s : Span) : ∃ c ∈ sg (spanT s), c < 97 := by
  have hne : sg (spanT s) ≠ [] := by
    unfold spanT
    split
    · rename_i h
      cases e : s.1 with
      | none => exact absurd e h.2
      | some n => exact fun z => numT_ne n (by simpa [e, endT] using z)
    · rw [sg_app, sg_app, show sg (".." : Str) = [46, 46] from rfl]
      simp
  match e : sg (spanT s), hne with
  | c :: l, _ =>
    refine ⟨c, List.mem_cons_self, ?_⟩
    refine Decidable.byContradiction fun hc => ?_
    have : c ∉ sg (spanT s) := spanT_free (by omega) (by omega)
    rw [e] at this
    exact this List.mem_cons_self
section
variable {P : Program} {w : World} {K : PySem.W.Frag} {mg : Str → Option Value} {base : Heap} {C : Addr}
theorem ok_Parts_put {n k : Nat} (hk : 4 ≤ k) (hC : PCls K C) (D_is_name : Def P w K mg base 1 "is_name" ["thing"] (FnR K 1 R_is_name)) (D_inner_of : Def P w K mg base 1 "inner_of" ["text", "deep"] (FnR K 2 R_inner_of)) (D_read_span : Def P w K mg base 4 "read_span" ["text"] (FnR K 1 R_read_span))
    (D_Parts_init : IDef P w K mg base k "Parts" C ["self", "text", "deep"] (InitP C (S_Parts K C n))) (A : AtM K C "put" "Parts.put" s_Parts_put) : MDef P w K mg base (k + 2) C "put" ["self", "part", "deep"] (PutP K C n) := by
  refine mdef_of A sc_Parts_put (fun _ _ _ _ _ _ us hl => match us, hl with | [_, _, _], _ => rfl) (fun vs H Q E ⟨_, _, _, _, _, _, _, _, _, _, _, _, _, _, e, _⟩ => by rw [e] <;> rfl) fun f cdv A outer s H vs Q E hr h => ?_
  obtain ⟨nm, G0, G, H0, x, dx, wa, sa, ta, r, p, deep, u, hnm, rfl, e0, nn, far, ps, hu, hp, hd0, hd, hrl, q⟩ := h
  refine ⟨_, (pss_one (ps_if (pt_cmpR op_eq (pv 1) pe_str (nomark _)) (pss_one (kPsFld (K := K) rfl (pv 0) pe_bl rfl)) (pss_one (ps_if (pt_val (pe_def D_is_name hr (by omega) (by rfl) (pa_cons (pv 1) pa_nil))) (pss_one (ps_expr (kBm (K := K) rfl PySem.F.plainAttrs_list PySem.F.slot_list_append PySem.F.type_list_append mt_append (kFld (K := K) rfl (pv 0) rfl) (pa_cons (pv 1) pa_nil)))) (pss_one (ps_if (pt_val (pe_m1 PySem.F.slot_str_startswith PySem.F.type_str_startswith mt_startswith (pv 1) pe_str)) (pss_one (ps_expr (kBm (K := K) rfl PySem.F.plainAttrs_list PySem.F.slot_list_append PySem.F.type_list_append mt_append (kFld (K := K) rfl (pv 0) rfl) (pa_cons (kMake D_Parts_init hr (by omega) (by rfl) (pa_cons (pe_def D_inner_of hr (by omega) (by rfl) (pa_cons (pv 1) (pa_cons (pv 2) pa_nil))) (pa_cons (pe_op op_add (pv 2) pe_int) pa_nil))) pa_nil)))) (pss_one (ps_if (pt_cmpR op_ne (pv 1) pe_str (nomark _)) (pss_one (ps_expr (kBm (K := K) rfl PySem.F.plainAttrs_list PySem.F.slot_list_append PySem.F.type_list_append mt_append (kFld (K := K) rfl (pv 0) rfl) (pa_cons (pe_def D_read_span hr (by omega) (by rfl) (pa_cons (pv 1) pa_nil)) pa_nil)))) pss_nil)))))))), ?_⟩
  have fr := e0.fr
  have l1 := namesP_len r
  have l2 := spansP_len r
  have l3 := innersP_len r
  have hne : ∀ {a b : Str}, a ≠ b → decide (a = b) = false := fun h => decide_eq_false h
  have isn : ∀ {G' H' : Hp} {b : Bool} {y : Str}, Dp K G' u (.str y) → y.length ≤ 100000 → isName y = b → EvT .no (tB (tCall (FnR K 1 R_is_name) [] E0 (tCons (tVar 1) tNil))) (L2.start n_Parts_put [.ref x, u, .int deep]) G' b := fun {G' H' b y} h hl hb => evt_B (evd_call (ds := [.str y]) (eva_cons (var_ (by rfl) h) eva_nil) (by rfl) ⟨y, hl, rfl, by rw [hb]⟩)
  match p, hp with
  | .any, _ =>
    rw [partT_any] at hu
    refine st_yes fr (evt_test (K := K) (eqS_ (var_ (by rfl) hu) evd_str rfl)) fun H1 G1 e1 => ?_
    have ps1 := ps.ex e1
    refine ⟨.ref x, by rfl, x, C, dx, _, rfl, ps1.me.at_, hC.cls, hC.whole, by show 4 < 1000; decide, ?_⟩
    have E := (e0.trans e1).wrote (u := .ins C dx (pfs true (.ref wa) (.ref sa) (.ref ta))) nn.x ps1.me.out ps1.me.own
    exact q _ _ E e1.gg (ps1.any far)
  | .name y, hy =>
    rw [partT_name] at hu
    have hy1 : isName y = true := hnm y hy
    refine st_no fr (evt_test (K := K) (eqS_ (var_ (by rfl) hu) evd_str (by rw [hne (name_ne hy1 (by decide +kernel))]))) fun H1 G1 e1 => ?_
    refine st_yes e1.fr (isn (H' := H1) (dsame hu e1.gg) (by have := isName_len hy1; omega) hy1) fun H2 G2 e2 => ?_
    have e12 := e1.trans e2
    have ps2 := ps.ex e12
    refine st_appendF (K := K) ps2.me hC.cls hC.words (by rfl) (by rfl) e2.fr ps2.ws (by rw [List.length_map]; omega) (var_ (Φ := PD K (.str y)) (by rfl) (dsame hu e12.gg)) fun y3 H3 G3 e3 p3 => ?_
    have hy3 : y3 = .str y := dp_str p3
    subst hy3
    have ps3 := ps2.ex e3
    have e := e12.trans e3
    exact q _ _ ((e0.trans e).wrote nn.w ps3.ws.out ps3.ws.own) e.gg (ps3.name far)
  | .none, _ =>
    rw [partT_none] at hu
    refine st_no fr (evt_test (K := K) (eqS_ (var_ (by rfl) hu) evd_str (by rfl))) fun H1 G1 e1 => ?_
    refine st_no e1.fr (isn (H' := H1) (dsame hu e1.gg) (by decide) (by decide +kernel)) fun H2 G2 e2 => ?_
    refine st_no e2.fr (evt_B (K := K) (starts_ (y := "[") (var_ (by rfl) (dsame hu (e1.trans e2).gg)) evd_str (by rw [starts1 (c := 91) (by rfl)] <;> rfl))) fun H3 G3 e3 => ?_
    refine st_no e3.fr (evt_test (K := K) (neS_ (var_ (by rfl) (dsame hu ((e1.trans e2).trans e3).gg)) evd_str (by rfl))) fun H4 G4 e4 => ?_
    walk_at "nx"
    have e := ((e1.trans e2).trans e3).trans e4
    exact q _ _ (e0.trans e) e.gg (ps.ex e).none
  | .span y, hy =>
    rw [partT_span] at hu
    obtain ⟨c, hc1, hc2⟩ := spanT_has y
    have hl := spanT_len (s := y) hy
    have hnn : ∀ z : Str, (∀ d ∈ sg z, 97 ≤ d) → spanT y ≠ z := fun z hz e => by
      rw [e] at hc1
      have := hz c hc1
      omega
    refine st_no fr (evt_test (K := K) (eqS_ (var_ (by rfl) hu) evd_str (by rw [hne (hnn "any" (by decide))]))) fun H1 G1 e1 => ?_
    refine st_no e1.fr (isn (H' := H1) (dsame hu e1.gg) (by omega) (notName hc1 (.inl hc2))) fun H2 G2 e2 => ?_
    refine st_no e2.fr (evt_B (K := K) (starts_ (y := "[") (var_ (by rfl) (dsame hu (e1.trans e2).gg)) evd_str (by
      have hh : (sg (spanT y)).head? ≠ some 91 := fun z => spanT_free (s := y) (k := 91) (by decide) (by decide) (List.mem_of_mem_head? z)
      rw [starts1 (c := 91) (by rfl), decide_eq_false hh]))) fun H3 G3 e3 => ?_
    refine st_yes e3.fr (evt_test (K := K) (neS_ (var_ (by rfl) (dsame hu ((e1.trans e2).trans e3).gg)) evd_str (by rw [hne (hnn "none" (by decide))] <;> rfl))) fun H4 G4 e4 => ?_
    have e := ((e1.trans e2).trans e3).trans e4
    have ps4 := ps.ex e
    obtain ⟨xs, lx, hx⟩ := ps4.ss
    refine st_appendF (K := K) ps4.me hC.cls hC.stretches (by rfl) (by rfl) e4.fr lx (by rw [dalen hx, List.length_map]; omega) (evd_call (ds := [.str (spanT y)]) (eva_cons (var_ (by rfl) (dsame hu e.gg)) eva_nil) (by rfl) ⟨y, hy, rfl, rfl⟩) fun y5 H5 G5 e5 p5 => ?_
    have ps5 := ps4.ex e5
    have lx5 := Loc.ex lx e5
    have e' := e.trans e5
    exact q _ _ ((e0.trans e').wrote nn.s lx5.out lx5.own) e'.gg (ps5.span far lx5 (dasame hx e5.gg) p5)
  | .inner y, hy =>
    rw [partT_inner] at hu
    have hy : POk nm (n + 1) (.inner y) := hy
    have hrow := hy.row
    have hn1 : 1 ≤ n := by
      cases n with
      | zero =>
        obtain ⟨z, hz⟩ := List.exists_mem_of_ne_nil _ hrow.ne
        exact nomatch z
      | succ n => omega
    have hrl2 := row_len hnm (by omega) hrow
    have hs := sg_br (rowT n y)
    have hbl : ("[" ++ rowT n y ++ "]" : Str).length = (rowT n y).length + 2 := by
      rw [len_sg, hs, List.length_cons, List.length_append, List.length_singleton, ← len_sg]
    have h91 : (91 : Nat) ∈ sg ("[" ++ rowT n y ++ "]") := by rw [hs]; exact List.mem_cons_self
    have hnn : ∀ z : Str, 91 ∉ sg z → ("[" ++ rowT n y ++ "]" : Str) ≠ z := fun z hz e => hz (e ▸ h91)
    refine st_no fr (evt_test (K := K) (eqS_ (var_ (by rfl) hu) evd_str (by rw [hne (hnn "any" (by decide))]))) fun H1 G1 e1 => ?_
    refine st_no e1.fr (isn (H' := H1) (dsame hu e1.gg) (by omega) (notName h91 (.inl (by decide)))) fun H2 G2 e2 => ?_
    refine st_yes e2.fr (evt_B (K := K) (starts_ (y := "[") (var_ (by rfl) (dsame hu (e1.trans e2).gg)) evd_str (by
      rw [starts1 (c := 91) (by rfl), hs] <;> rfl))) fun H3 G3 e3 => ?_
    have e := (e1.trans e2).trans e3
    have ps4 := ps.ex e
    obtain ⟨xs, lx, hx⟩ := ps4.ts
    have hul := dsame hu e.gg
    refine st_appendF (K := K) (Φ := PParts K C n y) ps4.me hC.cls hC.within_it (by rfl) (by rfl) e3.fr lx (by rw [hx.len, List.length_map]; omega) (ev_make (Φs := [PD K (.str (rowT n y)), PD K (.int (deep + 1))]) (eva_cons (evd_call (ds := [.str ("[" ++ rowT n y ++ "]"), .int deep]) (eva_cons (var_ (by rfl) hul) (eva_cons (var_ (by rfl) (Dp.int deep)) eva_nil)) (by rfl) ⟨rowT n y, deep, by omega, by omega, rfl, rfl⟩) (eva_cons (intI_ (var_ (by rfl) (Dp.int deep)) evd_int rfl) eva_nil)) ⟨rfl, nm, y, deep + 1, hnm, hrow, by omega, by omega, rfl, rfl⟩) fun y5 H5 G5 e5 p5 => ?_
    have ps5 := ps4.ex e5
    have lx5 := Loc.ex lx e5
    have e' := e.trans e5
    exact q _ _ ((e0.trans e').wrote nn.t lx5.out lx5.own) e'.gg (ps5.inner far lx5 (hx.mono e5.gg) p5)
end
end Fm
set_option maxHeartbeats 4000000
/-! FmY2: Parts.__init__. -/
namespace Fm
open PySem PySem.Spec PyProof.Rows L2
local macro_rules | `(tactic| walk_at "nx") => `(tactic| try dsimp only [tSeq, tNext])
/-- x.f = [] -/
theorem st_fldNew {o : Ow} {K : PySem.W.Frag} {σ : L2.St} {G H : Hp} {D : Ends} {n : Nat} {x C dx : Addr} {fs : List (Str × V)} {f : Str} (lx : LocU o G H x (.ins C dx fs)) (c : Cls K C) (na : NoAttr K C f) (hf : fs.length < 1000) (hv : σ[n]? = some (some (.ref x))) (fr : Fr o G H)
    (q : ∀ p H', H p = none → (∀ G0 H0, Ex o G0 G H0 H → H0 x = none → Ex o G0 G H0 H') → LocU o G H' x (.ins C dx (putF f (.ref p) fs)) → Loc o G H' p [] → (∀ b u, b ≠ x → LocU o G H b u → LocU o G H' b u) → p ≠ x → D.nx σ H') : sFld K (tVar n) (tLst tNil) f D σ H := by
  refine ⟨by decide, fun p hp => ?_⟩
  have hpx : p ≠ x := fun z => by
    have := lx.at_
    rw [← z, hp] at this; cases this
  have eA : Ex o G G H (upd H p (.lst [])) := Ex.aside fr hp
  have lx2 := lx.ex eA
  have lp2 : LocU o G (upd H p (.lst [])) p (.lst []) := LocU.new fr hp
  refine ⟨.ref x, hv, x, C, dx, fs, rfl, lx2.at_, c, na, hf, ?_⟩
  exact q p _ hp (fun G0 H0 e h0 => (e.trans eA).wrote h0 lx2.out lx2.own) lx2.put (lp2.other hpx) (fun b u hb l => (l.ex eA).other hb) hpx
theorem Pst.done {K : PySem.W.Frag} {C : Addr} {α : Type} {sub : List α → Pr} {G H G0 H0 : Hp} {x dx w s t : Addr} {r : List (PF α)} (p : Pst K C sub G H x dx w s t r) (f : Far x w s t) (nn : Nn H0 x w s t) (e : Ex .no G0 G H0 H) : ∃ G', Ex .no G0 G' H0 H ∧ (PPartsF K C sub r).p G' (.ref x) := by
  obtain ⟨xs, ls, ds⟩ := p.ss
  obtain ⟨ts, lt, dt⟩ := p.ts
  have e1 := e.took nn.w p.ws.out p.ws.own p.ws.at_
  have o2 : (upd G w (.lst ((namesP r).map V.str))) s = Option.none := by rw [upd_ne (Ne.symm f.ws)]; exact ls.out
  have e2 := e1.took nn.s o2 ls.own ls.at_
  have o3 : (upd (upd G w (.lst ((namesP r).map V.str))) s (.lst xs)) t = Option.none := by rw [upd_ne (Ne.symm f.st), upd_ne (Ne.symm f.wt)]; exact lt.out
  have e3 := e2.took nn.t o3 lt.own lt.at_
  have o4 : (upd (upd (upd G w (.lst ((namesP r).map V.str))) s (.lst xs)) t (.lst ts)) x = Option.none := by rw [upd_ne f.xt, upd_ne f.xs, upd_ne f.xw]; exact p.me.out
  have e4 := e3.took nn.x o4 p.me.own p.me.at_
  have sm : Same G (upd (upd (upd (upd G w (.lst ((namesP r).map V.str))) s (.lst xs)) t (.lst ts)) x (.ins C dx (pfs (hasAny r) (.ref w) (.ref s) (.ref t)))) := (((Same.new p.ws.out).trans (Same.new o2)).trans (Same.new o3)).trans (Same.new o4)
  refine ⟨_, e4, x, dx, .ref w, .ref s, .ref t, rfl, upd_same, ⟨w, _, rfl, ?_, dpall_of_strs _⟩, ⟨s, xs, rfl, ?_, dasame ds sm⟩, ⟨t, ts, rfl, ?_, dt.mono sm⟩⟩
  · rw [upd_ne (Ne.symm f.xw), upd_ne f.wt, upd_ne f.ws, upd_same]
  · rw [upd_ne (Ne.symm f.xs), upd_ne f.st, upd_same]
  · rw [upd_ne (Ne.symm f.xt), upd_same]
section
variable {P : Program} {w : World} {K : PySem.W.Frag} {mg : Str → Option Value} {base : Heap} {C : Addr}
theorem cut_row {m n : Nat} {nm : Str → Prop} (hnm : NmOk nm) (h4 : m ≤ 4) {r : List (Prt m)} (hr : ROk nm m r) {σ : L2.St} {G : Hp} {v : V} (hv : σ[n]? = some (some v)) (ht : Dp K G v (.str (rowT m r))) : EvD .no K (tCall (FnR K 2 R_cut) [] E0 (tCons (tVar n) (tCons (tC (.str "|")) tNil))) σ G (.list (r.map fun p => .str (partT m p))) := by
  have hrl := row_len hnm h4 hr
  have key := evd_call (o := .no) (K := K) (R := R_cut) (E := E0) (n := 2) (ds := [.str (Str.join "|" (r.map (partT m))), .str "|"]) (d := .list ((r.map (partT m)).map .str)) (eva_cons (var_ (o := .no) (σ := σ) (n := n) hv ht) (eva_cons (evd_str (x := "|")) eva_nil)) (by rfl) ⟨r.map (partT m), fun z => hr.ne (List.map_eq_nil_iff.mp z), fun y hy => by
      obtain ⟨p, hp, rfl⟩ := List.mem_map.mp hy
      exact (part_nest hnm m p (hr.ok p hp)).2, by have := hr.few; rw [List.length_map]; omega, by unfold rowT joinB at hrl; omega, rfl, rfl⟩
  rw [List.map_map] at key
  exact key
theorem ok_Parts_init {n k : Nat} (hk : 1 ≤ k) (Z : Zs mg) (hC : PCls K C) (D_cut : Def P w K mg base 1 "cut" ["text", "sign"] (FnR K 2 R_cut)) (M_Parts_put : MDef P w K mg base k C "put" ["self", "part", "deep"] (PutP K C n)) (A : AtI K mg "Parts" C "Parts.__init__" s_Parts_init) :
    IDef P w K mg base (k + 1) "Parts" C ["self", "text", "deep"] (InitP C (S_Parts K C (n + 1))) := by
  refine idef_of A sc_Parts_init (fun _ _ _ _ _ _ us hl => match us, hl with | [_, _, _], _ => rfl) (fun vs H Q E h => InitP.len (n := 2) (fun o Φs Ψ ⟨_, _, _, _, _, _, _, _, h3, _⟩ => by rw [h3] <;> rfl) h) fun f cdv A outer s H vs Q E hr h => ?_
  obtain ⟨_, _, _, G, H0, x, dx, us, ⟨rfl, nm, r, deep, hnm, hrow, hd0, hd, rfl, rfl⟩, rfl, e0, hx0, lx, hv, q⟩ := h
  obtain ⟨t, d, rfl, ht, hdp⟩ := allp2 hv
  change List (PF (Prt n)) at r
  have hfew : List.length (α := PF (Prt n)) r ≤ 12 := hrow.few
  have hde : d = .int deep := dp_int hdp
  subst hde
  refine ⟨_, (pss_cons (kPsFld (K := K) rfl (pv 0) pe_bl rfl)
    (pss_cons (kPsFld (K := K) rfl (pv 0) (pe_lst pa_nil) rfl)
    (pss_cons (kPsFld (K := K) rfl (pv 0) (pe_lst pa_nil) rfl)
    (pss_cons (kPsFld (K := K) rfl (pv 0) (pe_lst pa_nil) rfl)
    (pss_one (ps_for PassesOwn.never rfl (kPiL (K := K) rfl (pe_def D_cut hr (by omega) (by rfl) (pa_cons (pv 1) (pa_cons pe_str pa_nil)))) (pg_name (i := 3) sc_Parts_init.nd rfl (.inl rfl)) (pss_one (ps_expr (kMeth M_Parts_put hr (by omega) (pv 0) (pa_cons (pv 3) (pa_cons (pv 2) pa_nil))))))))))), ?_⟩
  refine ⟨.ref x, by rfl, x, C, dx, [], rfl, lx.at_, hC.cls, hC.whole, by decide, ?_⟩
  have lx1 : LocU .no G (upd H x (.ins C dx [("whole", .bl false)])) x (.ins C dx [("whole", .bl false)]) := lx.put
  have E1 := e0.wrote (u := .ins C dx [("whole", .bl false)]) hx0 lx.out lx.own
  show tSeq (sFld K (tVar 0) (tLst tNil) "words") _ _ _ (upd H x (.ins C dx [("whole", .bl false)]))
  generalize upd H x (.ins C dx [("whole", .bl false)]) = H1 at lx1 E1 ⊢
  refine st_fldNew lx1 hC.cls hC.words (by decide) (by rfl) E1.fr fun wa H2 w1 w2 w3 w4 w5 w6 => ?_
  have E2 := w2 _ _ E1 hx0
  have hw0 := E1.none_back (fun z => z) w1
  refine st_fldNew w3 hC.cls hC.stretches (by show 2 < 1000; decide) (by rfl) E2.fr fun sa H3 s1 s2 s3 s4 s5 s6 => ?_
  have E3 := s2 _ _ E2 hx0
  have hs0 := E2.none_back (fun z => z) s1
  have hsw : wa ≠ sa := fun z => by
    have := w4.at_
    rw [z, s1] at this; cases this
  have w4' := s5 _ _ w6 w4
  refine st_fldNew s3 hC.cls hC.within_it (by show 3 < 1000; decide) (by rfl) E3.fr fun ta H4 t1 t2 t3 t4 t5 t6 => ?_
  have E4 := t2 _ _ E3 hx0
  have ht0 := E3.none_back (fun z => z) t1
  have htw : wa ≠ ta := fun z => by
    have := w4'.at_
    rw [z, t1] at this; cases this
  have hts : sa ≠ ta := fun z => by
    have := s4.at_
    rw [z, t1] at this; cases this
  have w4'' := t5 _ _ w6 w4'
  have s4' := t5 _ _ s6 s4
  have far : Far x wa sa ta := ⟨Ne.symm w6, Ne.symm s6, Ne.symm t6, hsw, htw, hts⟩
  have nn : Nn H0 x wa sa ta := ⟨hx0, hw0, hs0, ht0⟩
  have pst : Pst K C (PParts K C n) G H4 x dx wa sa ta [] := ⟨t3, w4'', ⟨[], s4', .nil⟩, ⟨[], t4, True.intro⟩⟩
  walk_at "nx"
  refine for_ E4.fr (ito_listF (bs := r) (enc := fun p => .str (partT (n + 1) p)) ?_) fun G5 H5 e5 => ?_
  · exact cut_row hnm (by omega) hrow (by rfl) ht
  · refine ⟨fun i σ G' H' => Ex .no G G' H0 H' ∧ Same G5 G' ∧ Pst K C (PParts K C n) G' H' x dx wa sa ta (r.take i) ∧ ∃ a : Option V, σ = [some (.ref x), some t, some (.int deep), a], ⟨E4.trans e5, Same.refl _, by rw [List.take_zero]; exact pst.ex e5, _, rfl⟩, fun i σ G H h => ⟨h.2.1, h.1.fr.sub⟩, ?_, ?_⟩
    · rintro i φ y σ G6 H6 hi hy ⟨e6, s6', ps6, a, rfl⟩
      rw [List.getElem?_map] at hi
      obtain ⟨p, hp, rfl⟩ := Option.map_eq_some_iff.mp hi
      refine ⟨.ref x, by rfl, x, dx, _, rfl, ps6.me.at_, by rfl, y, by rfl, .int deep, by rfl, ?_⟩
      refine ⟨nm, G, G6, H0, x, dx, wa, sa, ta, r.take i, p, deep, y, hnm, rfl, e6, nn, far, ps6, hy, hrow.ok p (List.mem_of_getElem? hp), hd0, by omega, by rw [List.length_take]; omega, fun H' G' e s' ps => ⟨G', e, s6'.trans s', ?_, _, rfl⟩⟩
      rw [List.take_add_one, hp]
      exact ps
    · rintro σ G6 H6 ⟨e6, s6', ps6, a, rfl⟩
      rw [List.length_map, List.take_length] at ps6
      obtain ⟨G7, e7, hp7⟩ := ps6.done far nn e6
      exact q _ _ e7 hp7
end
end Fm
set_option maxHeartbeats 4000000
/-! FmY3: Parts by levels; its words, its kind. -/
namespace Fm
open PySem PySem.Spec PyProof.Rows L2
local macro_rules | `(tactic| walk_at "nx") => `(tactic| try dsimp only [tSeq, tNext])
theorem row_none {nm : Str → Prop} {r : List (Prt 0)} (h : ROk nm 0 r) : False := by
  obtain ⟨p, hp⟩ := List.exists_mem_of_ne_nil _ h.ne
  exact nomatch p
section
variable {P : Program} {w : World} {K : PySem.W.Frag} {mg : Str → Option Value} {base : Heap} {C CW : Addr}
theorem ok_Parts (Z : Zs mg) (hC : PCls K C) (D_cut : Def P w K mg base 1 "cut" ["text", "sign"] (FnR K 2 R_cut)) (D_is_name : Def P w K mg base 1 "is_name" ["thing"] (FnR K 1 R_is_name)) (D_inner_of : Def P w K mg base 1 "inner_of" ["text", "deep"] (FnR K 2 R_inner_of)) (D_read_span : Def P w K mg base 4 "read_span" ["text"] (FnR K 1 R_read_span))
    (A1 : AtI K mg "Parts" C "Parts.__init__" s_Parts_init) (A2 : AtM K C "put" "Parts.put" s_Parts_put) : ∀ n, IDef P w K mg base (5 + 3 * n) "Parts" C ["self", "text", "deep"] (InitP C (S_Parts K C n))
  | 0 => idef_of A1 sc_Parts_init (fun _ _ _ _ _ _ us hl => match us, hl with | [_, _, _], _ => rfl) (fun vs H Q E ⟨_, _, _, _, _, _, _, _, ⟨_, _, _, _, _, h, _⟩, _⟩ => (row_none h).elim) fun f cdv A outer s H vs Q E hr ⟨_, _, _, _, _, _, _, _, ⟨_, _, _, _, _, h, _⟩, _⟩ => (row_none h).elim
  | n + 1 => by
    rw [show 5 + 3 * (n + 1) = (5 + 3 * n + 2) + 1 by omega]
    exact ok_Parts_init (by omega) Z hC D_cut (ok_Parts_put (by omega) hC D_is_name D_inner_of D_read_span (ok_Parts Z hC D_cut D_is_name D_inner_of D_read_span A1 A2 n) A2) A1
/-! words -/
def wB : Nat → Nat
  | 0 => 0
  | n + 1 => 1 + 3 * wB n
theorem sum_flat {α β : Type} {f : α → List β} {B : Nat} : ∀ {l : List α}, (∀ a ∈ l, (f a).length ≤ B) → (l.flatMap f).length ≤ l.length * B
  | [], _ => Nat.zero_le _
  | a :: l, h => by
    have h1 := h a List.mem_cons_self
    have h2 := sum_flat fun b hb => h b (List.mem_cons_of_mem _ hb)
    rw [List.flatMap_cons, List.length_append, List.length_cons, Nat.succ_mul]
    omega
theorem parts_count {α : Type} : ∀ (r : List (PF α)), (namesP r).length + (spansP r).length + (innersP r).length ≤ r.length
  | [] => Nat.zero_le _
  | p :: r => by
    have ih := parts_count r
    rw [show p :: r = [p] ++ r from rfl, namesP_app, spansP_app, innersP_app]
    simp only [List.length_append]
    cases p <;> simp [namesP, spansP, innersP] at ih ⊢ <;> omega
theorem inner_mem {α : Type} {r : List (PF α)} {y : List α} (h : y ∈ innersP r) : PF.inner y ∈ r := by
  obtain ⟨p, hp, e⟩ := List.mem_filterMap.mp h
  cases p <;> simp at e
  rw [← e]; exact hp
theorem name_mem {α : Type} {r : List (PF α)} {y : Str} (h : y ∈ namesP r) : PF.name y ∈ r := by
  obtain ⟨p, hp, e⟩ := List.mem_filterMap.mp h
  cases p <;> simp at e
  rw [← e]; exact hp
theorem span_mem {α : Type} {r : List (PF α)} {y : Span} (h : y ∈ spansP r) : PF.span y ∈ r := by
  obtain ⟨p, hp, e⟩ := List.mem_filterMap.mp h
  cases p <;> simp at e
  rw [← e]; exact hp
theorem words_len {nm : Str → Prop} : ∀ (n : Nat) (r : List (Prt n)), (∀ p ∈ r, POk nm n p) → (wordsP n r).length ≤ r.length * wB n
  | 0, _, _ => Nat.zero_le _
  | n + 1, r, h => by
    change List (PF (Prt n)) at r
    have hc := parts_count r
    have h1 := sum_flat (f := wordsP n) (B := 3 * wB n) (l := innersP r) fun y hy => by
      have q : POk nm (n + 1) (.inner y) := h _ (inner_mem hy)
      exact Nat.le_trans (words_len n y q.inner.2.2) (Nat.mul_le_mul_right _ q.inner.2.1)
    show (namesP r ++ (innersP r).flatMap (wordsP n)).length ≤ List.length (α := PF (Prt n)) r * (1 + 3 * wB n)
    rw [List.length_append]
    have h2 : (namesP r).length * 1 + (innersP r).length * (3 * wB n) ≤ (namesP r).length * (1 + 3 * wB n) + (innersP r).length * (1 + 3 * wB n) := Nat.add_le_add (Nat.mul_le_mul_left _ (by omega)) (Nat.mul_le_mul_left _ (by omega))
    rw [← Nat.add_mul] at h2
    have h3 : ((namesP r).length + (innersP r).length) * (1 + 3 * wB n) ≤ List.length (α := PF (Prt n)) r * (1 + 3 * wB n) := Nat.mul_le_mul_right _ (by omega)
    omega
theorem words_nm {nm : Str → Prop} : ∀ (n : Nat) (r : List (Prt n)), (∀ p ∈ r, POk nm n p) → ∀ x ∈ wordsP n r, nm x
  | 0, _, _, x, hx => by cases hx
  | n + 1, r, h, x, hx => by
    change List (PF (Prt n)) at r
    change x ∈ namesP r ++ (innersP r).flatMap (wordsP n) at hx
    rcases List.mem_append.mp hx with hx | hx
    · exact h _ (name_mem hx)
    · obtain ⟨y, hy, hx⟩ := List.mem_flatMap.mp hx
      have q : POk nm (n + 1) (.inner y) := h _ (inner_mem hy)
      exact words_nm n y q.inner.2.2 x hx
theorem kindP_any {bel : Str → Str → Bool} {n : Nat} {r : List (PF (Prt n))} (h : hasAny r = true) : kindP bel (n + 1) r = KF.any := if_pos h
theorem kindP_mk {bel : Str → Str → Bool} {n : Nat} {r : List (PF (Prt n))} (h : hasAny r = false) : kindP bel (n + 1) r = formK bel n (namesP r) (spansP r) ((innersP r).map (kindP bel n)) := if_neg (by rw [h]; decide)
theorem kindP_ok {nm : Str → Prop} {bel : Str → Str → Bool} : ∀ (n : Nat) (r : List (Prt n)), ROk nm n r → KOk nm n (kindP bel n r)
  | 0, r, h => (row_none h).elim
  | n + 1, r, h => by
    have hf := h.few
    change List (PF (Prt n)) at r
    change List.length (α := PF (Prt n)) r ≤ 12 at hf
    have hc := parts_count r
    cases hA : hasAny r with
    | true =>
      rw [show kindP bel (n + 1) r = _ from kindP_any hA]
      exact True.intro
    | false =>
      rw [show kindP bel (n + 1) r = _ from kindP_mk hA]
      have hk : KOk nm (n + 1) (.mk (namesP r) (spansP r) ((innersP r).map (kindP bel n))) := ⟨fun x hx => h.ok _ (name_mem hx), by omega, by omega, by rw [List.length_map]; omega, fun k hk => by
        obtain ⟨y, hy, rfl⟩ := List.mem_map.mp hk
        have q : POk nm (n + 1) (.inner y) := h.ok _ (inner_mem hy)
        exact kindP_ok n y q.row⟩
      exact reK_ok (n + 1) _ hk
end
end Fm
set_option maxHeartbeats 4000000
/-! FmY4: all_words, formed_by, read_kind. -/
namespace Fm
open PySem PySem.Spec PyProof.Rows L2
local macro_rules | `(tactic| walk_at "nx") => `(tactic| try dsimp only [tSeq, tNext])
section
variable {P : Program} {w : World} {K : PySem.W.Frag} {mg : Str → Option Value} {base : Heap} {C CW : Addr}
theorem ppf_ins {α : Type} {sub : List α → Pr} {r : List (PF α)} {m : Str} (hm : m ≠ "whole" ∧ m ≠ "words" ∧ m ≠ "stretches" ∧ m ≠ "within_it") (G : Hp) (v : V) (h : (PPartsF K C sub r).p G v) : ∃ a dx fs, v = .ref a ∧ G a = some (.ins C dx fs) ∧ fs.lookup m = none := by
  obtain ⟨a, dx, w, s, t, e, h1, _⟩ := h
  refine ⟨a, dx, _, e, h1, ?_⟩
  simp only [List.lookup_cons, List.lookup_nil]
  rw [show (m == ("whole" : Str)) = false by simpa using hm.1, show (m == ("words" : Str)) = false by simpa using hm.2.1, show (m == ("stretches" : Str)) = false by simpa using hm.2.2.1, show (m == ("within_it" : Str)) = false by simpa using hm.2.2.2]
theorem ppf_words (hC : PCls K C) {α : Type} {sub : List α → Pr} {r : List (PF α)} (G : Hp) (v : V) (h : (PPartsF K C sub r).p G v) : ∃ a C' dx fs u, v = .ref a ∧ G a = some (.ins C' dx fs) ∧ Cls K C' ∧ NoAttr K C' "words" ∧ fs.lookup ("words" : Str) = some u ∧ (PN K ((namesP r).map .str)).p G u := by
  obtain ⟨a, dx, w, s, t, e, h1, h2, h3, h4⟩ := h
  exact ⟨a, C, dx, _, w, e, h1, hC.cls, hC.words, by rfl, h2⟩
theorem ppf_spans (hC : PCls K C) {α : Type} {sub : List α → Pr} {r : List (PF α)} (G : Hp) (v : V) (h : (PPartsF K C sub r).p G v) : ∃ a C' dx fs u, v = .ref a ∧ G a = some (.ins C' dx fs) ∧ Cls K C' ∧ NoAttr K C' "stretches" ∧ fs.lookup ("stretches" : Str) = some u ∧ (PN K ((spansP r).map spanD)).p G u := by
  obtain ⟨a, dx, w, s, t, e, h1, h2, h3, h4⟩ := h
  exact ⟨a, C, dx, _, s, e, h1, hC.cls, hC.stretches, by rfl, h3⟩
theorem ppf_within (hC : PCls K C) {α : Type} {sub : List α → Pr} {r : List (PF α)} (G : Hp) (v : V) (h : (PPartsF K C sub r).p G v) : ∃ a C' dx fs u, v = .ref a ∧ G a = some (.ins C' dx fs) ∧ Cls K C' ∧ NoAttr K C' "within_it" ∧ fs.lookup ("within_it" : Str) = some u ∧ (PLn ((innersP r).map sub)).p G u := by
  obtain ⟨a, dx, w, s, t, e, h1, h2, h3, h4⟩ := h
  exact ⟨a, C, dx, _, t, e, h1, hC.cls, hC.within_it, by rfl, h4⟩
theorem ppf_whole (hC : PCls K C) {α : Type} {sub : List α → Pr} {r : List (PF α)} (G : Hp) (v : V) (h : (PPartsF K C sub r).p G v) : ∃ a C' dx fs u, v = .ref a ∧ G a = some (.ins C' dx fs) ∧ Cls K C' ∧ NoAttr K C' "whole" ∧ fs.lookup ("whole" : Str) = some u ∧ (PD K (.bool (hasAny r))).p G u := by
  obtain ⟨a, dx, w, s, t, e, h1, h2, h3, h4⟩ := h
  exact ⟨a, C, dx, _, .bl (hasAny r), e, h1, hC.cls, hC.whole, by rfl, Dp.bl _⟩
def S_formed_by (K : PySem.W.Frag) (C CW : Addr) (n : Nat) : Ow → List Pr → Pr → Prop := fun o Φs Ψ => o = .no ∧ ∃ W, ∃ r : List (Prt n), WebIn W ∧ ROk (inW W) n r ∧ Φs = [PParts K C n r, PWeb CW W] ∧ Ψ = PD K (kindD n (kindP (below W) n r))
theorem ok_formed_by {n k : Nat} (hk : 1 ≤ k) (hC : PCls K C) (D_any_kind : Def P w K mg base 1 "any_kind" [] (FnR K 0 fun ds d => d = anyD)) (D_formed : Def P w K mg base k "formed" ["web", "names", "spans", "inners"] (Fn (S_formed K CW n)))
    (M_Parts_formed_by : MDef P w K mg base k C "formed_by" ["self", "web"] (Fn (S_formed_by K C CW n))) (A : AtM K C "formed_by" "Parts.formed_by" s_Parts_formed_by) : MDef P w K mg base (k + 1) C "formed_by" ["self", "web"] (Fn (S_formed_by K C CW (n + 1))) := by
  refine mdef_of A sc_Parts_formed_by (fun _ _ _ _ _ _ us hl => match us, hl with | [_, _], _ => rfl) (fun vs H Q E h => Fn.len (fun o Φs Ψ ⟨_, W, r, _, _, h3, _⟩ => by rw [h3] <;> rfl) h) fun f cdv A outer s H vs Q E hr h => ?_
  obtain ⟨_, _, _, G, ⟨rfl, W, r, hW, hrow, rfl, rfl⟩, fr, hv, q⟩ := h
  obtain ⟨x, y, rfl, hx, hy⟩ := allp2 hv
  change List (PF (Prt n)) at r
  change (PPartsF K C (PParts K C n) r).p G x at hx
  have hf : List.length (α := PF (Prt n)) r ≤ 12 := hrow.few
  have hc := parts_count r
  refine ⟨_, (pss_cons (ps_if (pt_val (kFld (K := K) rfl (pv 0) rfl)) (pss_one (ps_ret (pe_def0 D_any_kind hr (by omega) (by rfl)))) pss_nil)
    (pss_one (ps_ret (pe_def D_formed hr (by omega) (by rfl) (pa_cons (pv 1) (pa_cons (kFld (K := K) rfl (pv 0) rfl) (pa_cons (kFld (K := K) rfl (pv 0) rfl) (pa_cons (pe_lc (own := [("inner", 2)]) (g := gName 2) (tt := tYes) rfl sc_Parts_formed_by.nd (kPiL (K := K) rfl (kFld (K := K) rfl (pv 0) rfl)) (blkOk_by (N := n_Parts_formed_by) (sc := (defScope s_Parts_formed_by)) (by decide +kernel)) (fun _ _ _ _ _ => (pg_name (i := 2) sc_Parts_formed_by.nd rfl (.inl rfl))) (fun _ _ _ _ _ => pts_nil) (fun _ _ _ _ _ => (kMeth M_Parts_formed_by hr (by omega) (pv 2) (pa_cons (pv 1) pa_nil)))) pa_nil)))))))), ?_⟩
  cases hA : hasAny r with
  | true =>
    rw [show kindP (below W) (n + 1) r = _ from kindP_any hA] at q
    refine st_yes fr (evt_B (EvD.to (fld_ (o := .no) (σ := L2.start n_Parts_formed_by [x, y]) (var_ (n := 0) (by rfl) hx) (ppf_whole hC)) (by rw [hA]))) fun H1 G1 e1 => ?_
    exact st_ret e1.fr (evd_call (ds := []) eva_nil (by rfl) rfl) (exq q e1)
  | false =>
    rw [show kindP (below W) (n + 1) r = _ from kindP_mk hA] at q
    refine st_no fr (evt_B (EvD.to (fld_ (o := .no) (σ := L2.start n_Parts_formed_by [x, y]) (var_ (n := 0) (by rfl) hx) (ppf_whole hC)) (by rw [hA]))) fun H1 G1 e1 => ?_
    walk_at "nx"
    have hx1 := (PPartsF K C (PParts K C n) r).mono e1.gg hx
    have hy1 := (PWeb CW W).mono e1.gg hy
    have hin : ∀ z ∈ innersP r, ROk (inW W) n z := fun z hz => POk.row (hrow.ok _ (inner_mem hz))
    have key : EvD .no K (tLc (iList K (tFld K (tVar 0) "within_it")) (gName 2) tYes (tMeth C "formed_by" (Fn (S_formed_by K C CW n)) [] E0 (tVar 2) (tCons (tVar 1) tNil)) [2]) (L2.start n_Parts_formed_by [x, y]) G1 (.list ((innersP r).map fun z => kindD n (kindP (below W) n z))) :=
      lcd1 (bs := innersP r) (Θ := PParts K C n) (by decide) (ito_list ((fld_ (var_ (by rfl) hx1) (ppf_within hC)).imp fun _ _ _ p => pln_l p)) (by omega) fun z hz v G2 s2 hv2 => by
        cases n with
        | zero => exact (row_none (hin z hz)).elim
        | succ m => exact ev_meth (Φ := PParts K C (m + 1) z) (var_ (by rfl) hv2) (ppf_ins (by decide)) (eva_cons (var_ (by rfl) ((PWeb CW W).mono s2 hy1)) eva_nil) ⟨rfl, W, z, hW, hin z hz, rfl, rfl⟩
    rw [show (innersP r).map (fun z => kindD n (kindP (below W) n z)) = ((innersP r).map (kindP (below W) n)).map (kindD n) by rw [List.map_map] <;> rfl] at key
    refine st_ret e1.fr (ev_call (Φs := [PWeb CW W, PSq K ((namesP r).map .str), PSq K ((spansP r).map spanD), PSq K (((innersP r).map (kindP (below W) n)).map (kindD n))]) (eva_cons (var_ (by rfl) hy1) (eva_cons ((fld_ (var_ (by rfl) hx1) (ppf_words hC)).imp fun _ _ _ p => ps_list (pn_d p)) (eva_cons ((fld_ (var_ (by rfl) hx1) (ppf_spans hC)).imp fun _ _ _ p => ps_list (pn_d p)) (eva_cons (key.imp fun _ _ _ p => ps_list p) eva_nil)))) ⟨rfl, W, namesP r, spansP r, _, hW, ?_, rfl, rfl⟩ (.inl rfl)) (exq q e1)
    exact ⟨fun z hz => hrow.ok _ (name_mem hz), by omega, by omega, by rw [List.length_map]; omega, fun k hk => by
      obtain ⟨z, hz, rfl⟩ := List.mem_map.mp hk
      exact kindP_ok n z (hin z hz)⟩
end
end Fm
set_option maxHeartbeats 4000000
/-! FmY5: all_words, check_names, read_kind. -/
namespace Fm
open PySem PySem.Spec PyProof.Rows L2
local macro_rules | `(tactic| walk_at "nx") => `(tactic| try dsimp only [tSeq, tNext])
section
variable {P : Program} {w : World} {K : PySem.W.Frag} {mg : Str → Option Value} {base : Heap} {C CW : Addr}
def S_all_words (K : PySem.W.Frag) (C : Addr) (n : Nat) : Ow → List Pr → Pr → Prop := fun o Φs Ψ => o = .no ∧ ∃ nm, ∃ r : List (Prt n), n ≤ 4 ∧ ROk nm n r ∧ Φs = [PParts K C n r] ∧ Ψ = PN K ((wordsP n r).map .str)
theorem wB_le : ∀ n ≤ 4, wB n ≤ 100 := by decide
theorem ok_all_words {n k : Nat} (Z : Zs mg) (hC : PCls K C) (M_Parts_all_words : MDef P w K mg base k C "all_words" ["self"] (Fn (S_all_words K C n))) (A : AtM K C "all_words" "Parts.all_words" s_Parts_all_words) : MDef P w K mg base (k + 1) C "all_words" ["self"] (Fn (S_all_words K C (n + 1))) := by
  refine mdef_of A sc_Parts_all_words (fun _ _ _ _ _ _ us hl => match us, hl with | [_], _ => rfl) (fun vs H Q E h => Fn.len (fun o Φs Ψ ⟨_, _, r, _, _, h3, _⟩ => by rw [h3] <;> rfl) h) fun f cdv A outer s H vs Q E hr h => ?_
  obtain ⟨_, _, _, G, ⟨rfl, nm, r, hn4, hrow, rfl, rfl⟩, fr, hv, q⟩ := h
  obtain ⟨x, rfl, hx⟩ := allp1 hv
  change List (PF (Prt n)) at r
  change (PPartsF K C (PParts K C n) r).p G x at hx
  have hf : List.length (α := PF (Prt n)) r ≤ 12 := hrow.few
  have hc := parts_count r
  have hin : ∀ z ∈ innersP r, POk nm (n + 1) (.inner z) := fun z hz => hrow.ok _ (inner_mem hz)
  have hwl : ∀ z ∈ innersP r, (wordsP n z).length ≤ 300 := fun z hz => by
    have h1 := words_len n z (hin z hz).inner.2.2
    have h2 := (hin z hz).inner.2.1
    have h3 := wB_le n (by omega)
    have h4 : List.length z * wB n ≤ 3 * 100 := Nat.mul_le_mul h2 h3
    omega
  refine ⟨_, (pss_cons (ps_set (i := 1) sc_Parts_all_words.nd rfl (.inl rfl) (pe_callTy (crLst (K := K) rfl) (by rfl) Z.list bt_list (pa_cons (kFld (K := K) rfl (pv 0) rfl) pa_nil)))
    (pss_cons (ps_for PassesOwn.never rfl (kPiL (K := K) rfl (kFld (K := K) rfl (pv 0) rfl)) (pg_name (i := 2) sc_Parts_all_words.nd rfl (.inl rfl)) (pss_one (ps_expr (kBm (K := K) rfl PySem.F.plainAttrs_list PySem.F.slot_list_extend PySem.F.type_list_extend mt_extend (pv 1) (pa_cons (kMeth0 M_Parts_all_words hr (by omega) (pv 2)) pa_nil)))))
    (pss_one (ps_ret (pv 1))))), ?_⟩
  refine fld_ (o := .no) (σ := L2.start n_Parts_all_words [x]) (var_ (n := 0) (by rfl) hx) (ppf_words hC) H fr _ fun v1 H1 G1 e1 ⟨b, xs, ev, hb, hd⟩ => ?_
  subst ev
  have hxs : xs = (namesP r).map V.str := dpall_strs hd
  subst hxs
  refine ⟨b, _, rfl, .inl (.inl (.inl (e1.fr.sub b _ hb))), fun p hp => ?_⟩
  have eA : Ex .no G G1 H (upd H1 p (.lst ((namesP r).map V.str))) := e1.trans (Ex.aside e1.fr hp)
  have l1 : Loc .no G1 (upd H1 p (.lst ((namesP r).map V.str))) p ((namesP r).map V.str) := Loc.new e1.fr hp
  have hpH := e1.none_back (fun z => z) hp
  generalize upd H1 p (.lst ((namesP r).map V.str)) = H2 at eA l1
  walk_at "nx"
  have hx1 := (PPartsF K C (PParts K C n) r).mono e1.gg hx
  refine for_ (fs := (innersP r).map (PParts K C n)) eA.fr (ito_list ((fld_ (σ := (L2.start n_Parts_all_words [x]).set 1 (some (.ref p))) (var_ (n := 0) (by rfl) hx1) (ppf_within hC)).imp fun _ _ _ p => pln_l p)) fun G3 H3 e3 => ?_
  refine ⟨fun i σ G' H' => (Lp .no G H G3 G' H' p ((namesP r ++ ((innersP r).take i).flatMap (wordsP n)).map V.str)) ∧ ∃ a : Option V, σ = [some x, some (.ref p), a], ⟨⟨eA.trans e3, Same.refl _, by rw [List.take_zero, List.flatMap_nil, List.append_nil]; exact l1.ex e3⟩, _, rfl⟩, fun i σ G H ⟨h, _⟩ => ⟨h.gg, h.ex.fr.sub⟩, ?_, ?_⟩
  · rintro i φ y σ G4 H4 hi hy ⟨lp, a, rfl⟩
    rw [List.getElem?_map] at hi
    obtain ⟨z, hz, rfl⟩ := Option.map_eq_some_iff.mp hi
    have hzm := List.mem_of_getElem? hz
    have hcall : EvP .no (tMeth C "all_words" (Fn (S_all_words K C n)) [] E0 (tVar 2) tNil) [some x, some (.ref p), some y] G4 (PN K ((wordsP n z).map .str)) := by
      cases n with
      | zero => exact (row_none (hin z hzm).row).elim
      | succ m => exact ev_meth (Φ := PParts K C (m + 1) z) (var_ (by rfl) hy) (ppf_ins (by decide)) eva_nil ⟨rfl, nm, z, by omega, (hin z hzm).row, rfl, rfl⟩
    have hacc := sum_flat (f := wordsP n) (B := 300) (l := (innersP r).take i) fun y hy => hwl y (List.mem_of_mem_take hy)
    rw [List.length_take] at hacc
    refine ⟨.ref p, by rfl, .inl ⟨rfl, _, .inl (.inl lp.loc.at_)⟩, hcall H4 lp.ex.fr _ fun v5 H5 G5 e5 ⟨b5, xs5, ev5, hb5, hd5⟩ => ?_⟩
    subst ev5
    have hxs5 : xs5 = (wordsP n z).map V.str := dpall_strs hd5
    subst hxs5
    have lp5 := lp.step e5
    refine ⟨p, b5, _, _, rfl, rfl, lp5.loc.at_, e5.fr.sub b5 _ hb5, ?_, G5, ?_, _, rfl⟩
    · rw [sizeLine_eq, List.length_map, List.length_map, List.length_append]
      have := hwl z hzm
      have h2 : min i (innersP r).length * 300 ≤ 12 * 300 := Nat.mul_le_mul_right _ (by omega)
      omega
    · have := lp5.put hpH (acc' := (namesP r ++ ((innersP r).take (i + 1)).flatMap (wordsP n)).map V.str)
      rw [List.take_add_one, hz, List.flatMap_append, ← List.append_assoc, List.map_append] at this ⊢
      simpa using this
  · rintro σ G4 H4 ⟨lp, a, rfl⟩
    walk_at "nx"
    rw [List.length_map, List.take_length] at lp
    have E := lp.loc.took lp.ex hpH
    exact st_ret E.fr (var_ (Φ := PN K ((wordsP (n + 1) r).map .str)) (by rfl) ⟨p, _, rfl, upd_same, dpall_of_strs _⟩) (exq q E)
end
end Fm
set_option maxHeartbeats 4000000
/-! FmY6: check_names, read_kind. -/
namespace Fm
open PySem PySem.Spec PyProof.Rows L2
local macro_rules | `(tactic| walk_at "nx") => `(tactic| try dsimp only [tSeq, tNext])
section
variable {P : Program} {w : World} {K : PySem.W.Frag} {mg : Str → Option Value} {base : Heap} {C CW : Addr}
theorem ok_all_wordss (Z : Zs mg) (hC : PCls K C) (A : AtM K C "all_words" "Parts.all_words" s_Parts_all_words) : ∀ n, MDef P w K mg base (1 + n) C "all_words" ["self"] (Fn (S_all_words K C n))
  | 0 => mdef_of A sc_Parts_all_words (fun _ _ _ _ _ _ us hl => match us, hl with | [_], _ => rfl) (fun vs H Q E ⟨_, _, _, _, ⟨_, _, _, _, h, _⟩, _⟩ => (row_none h).elim) fun f cdv A outer s H vs Q E hr ⟨_, _, _, _, ⟨_, _, _, _, h, _⟩, _⟩ => (row_none h).elim
  | n + 1 => ok_all_words Z hC (ok_all_wordss Z hC A n) A
theorem ok_formed_bys (hC : PCls K C) (D_any_kind : Def P w K mg base 1 "any_kind" [] (FnR K 0 fun ds d => d = anyD)) (D_formed : ∀ n ≤ 3, Def P w K mg base (11 + 2 * n) "formed" ["web", "names", "spans", "inners"] (Fn (S_formed K CW n))) (A : AtM K C "formed_by" "Parts.formed_by" s_Parts_formed_by) :
    ∀ n ≤ 4, MDef P w K mg base (11 + 2 * n) C "formed_by" ["self", "web"] (Fn (S_formed_by K C CW n))
  | 0, _ => mdef_of A sc_Parts_formed_by (fun _ _ _ _ _ _ us hl => match us, hl with | [_, _], _ => rfl) (fun vs H Q E ⟨_, _, _, _, ⟨_, _, _, _, h, _⟩, _⟩ => (row_none h).elim) fun f cdv A outer s H vs Q E hr ⟨_, _, _, _, ⟨_, _, _, _, h, _⟩, _⟩ => (row_none h).elim
  | n + 1, h => (ok_formed_by (by omega) hC D_any_kind (D_formed n (by omega)) (ok_formed_bys hC D_any_kind D_formed A n (by omega)) A).mono (by omega)
def S_check_names (K : PySem.W.Frag) (CW : Addr) : Ow → List Pr → Pr → Prop := fun o Φs Ψ => o = .no ∧ ∃ W, ∃ l : List Str, (∀ x ∈ l, inW W x) ∧ Φs = [PWeb CW W, PN K (l.map .str)] ∧ Ψ = PD K .none
theorem ok_check_names (M_Web_names : MDef P w K mg base 1 CW "names" ["self"] (Fn (S_names K CW))) (A : At K mg "check_names" s_check_names) : Def P w K mg base 2 "check_names" ["web", "names"] (Fn (S_check_names K CW)) := by
  refine def_of A sc_check_names (fun _ _ _ _ _ _ us hl => match us, hl with | [_, _], _ => rfl) (fun vs H Q E h => Fn.len (fun o Φs Ψ ⟨_, W, l, _, h3, _⟩ => by rw [h3] <;> rfl) h) fun f cdv A outer s H vs Q E hr h => ?_
  obtain ⟨_, _, _, G, ⟨rfl, W, l, hl, rfl, rfl⟩, fr, hv, q⟩ := h
  obtain ⟨x, y, rfl, hx, hy⟩ := allp2 hv
  refine ⟨_, (pss_cons (ps_set (i := 2) sc_check_names.nd rfl (.inl rfl) (kMeth0 M_Web_names hr (by omega) (pv 0)))
    (pss_one (ps_for PassesOwn.never rfl (kPiL (K := K) rfl (pv 1)) (pg_name (i := 3) sc_check_names.nd rfl (.inl rfl)) (pss_one (ps_if (pt_cmpR (kNotIn (K := K) rfl) (pv 3) (pv 2) (by rfl)) (pss_one ps_never) pss_nil))))), ?_⟩
  refine st_set (Φ := PN K ((namesW W).map .str)) fr (ev_meth (var_ (by rfl) hx) (pweb_ins (by decide)) eva_nil ⟨rfl, W, rfl, rfl⟩) fun v1 H1 G1 e1 p1 => ?_
  walk_at "nx"
  refine for_ e1.fr (ito_listF (bs := l) (enc := .str) (var_ (by rfl) (pn_d ((PN K (l.map .str)).mono e1.gg hy)))) fun G2 H2 e2 => ?_
  refine ⟨fun i σ G' H' => Ex .no G2 G' H2 H' ∧ ∃ a : Option V, σ = [some x, some y, some v1, a], ⟨Ex.refl e2.fr, _, rfl⟩, fun i σ G H h => ⟨h.1.gg, h.1.fr.sub⟩, ?_, ?_⟩
  · rintro i φ u σ G3 H3 hi hu ⟨e3, a, rfl⟩
    rw [List.getElem?_map] at hi
    obtain ⟨n, hn, rfl⟩ := Option.map_eq_some_iff.mp hi
    have hin := hl n (List.mem_of_getElem? hn)
    refine st_no e3.fr (evt_test (notInL_ (K := K) (x := n) (xs := namesW W) (var_ (by rfl) hu) (var_ (by rfl) (pn_d ((PN K ((namesW W).map .str)).mono (e2.gg.trans e3.gg) p1))) (by rw [decide_eq_true (show n ∈ namesW W from hin)] <;> rfl))) fun H4 G4 e4 => ?_
    walk_at "nx"
    exact ⟨G4, e3.trans e4, _, rfl⟩
  · rintro σ G3 H3 ⟨e3, a, rfl⟩
    exact q _ _ _ ((e1.trans e2).trans e3) Dp.non
def S_read_kind (K : PySem.W.Frag) (CW : Addr) : Ow → List Pr → Pr → Prop := fun o Φs Ψ => o = .no ∧ ∃ W, ∃ r : List (Prt 4), WebIn W ∧ ROk (inW W) 4 r ∧ Φs = [PWeb CW W, PD K (.str (rowT 4 r))] ∧ Ψ = PD K (kindD 4 (kindP (below W) 4 r))
theorem ok_read_kind (D_Parts_init : IDef P w K mg base 17 "Parts" C ["self", "text", "deep"] (InitP C (S_Parts K C 4))) (M_Parts_all_words : MDef P w K mg base 5 C "all_words" ["self"] (Fn (S_all_words K C 4))) (M_Parts_formed_by : MDef P w K mg base 19 C "formed_by" ["self", "web"] (Fn (S_formed_by K C CW 4)))
    (D_check_names : Def P w K mg base 2 "check_names" ["web", "names"] (Fn (S_check_names K CW))) (A : At K mg "read_kind" s_read_kind) : Def P w K mg base 20 "read_kind" ["web", "text"] (Fn (S_read_kind K CW)) := by
  refine def_of A sc_read_kind (fun _ _ _ _ _ _ us hl => match us, hl with | [_, _], _ => rfl) (fun vs H Q E h => Fn.len (fun o Φs Ψ ⟨_, W, r, _, _, h3, _⟩ => by rw [h3] <;> rfl) h) fun f cdv A outer s H vs Q E hr h => ?_
  obtain ⟨_, _, _, G, ⟨rfl, W, r, hW, hrow, rfl, rfl⟩, fr, hv, q⟩ := h
  obtain ⟨x, y, rfl, hx, hy⟩ := allp2 hv
  refine ⟨_, (pss_cons (ps_set (i := 2) sc_read_kind.nd rfl (.inl rfl) (kMake D_Parts_init hr (by omega) (by rfl) (pa_cons (pv 1) (pa_cons pe_int pa_nil))))
    (pss_cons (ps_expr (pe_def D_check_names hr (by omega) (by rfl) (pa_cons (pv 0) (pa_cons (kMeth0 M_Parts_all_words hr (by omega) (pv 2)) pa_nil))))
    (pss_one (ps_ret (kMeth M_Parts_formed_by hr (by omega) (pv 2) (pa_cons (pv 0) pa_nil)))))), ?_⟩
  have hnm : NmOk (inW W) := fun z hz => hW.name hz
  refine st_set (Φ := PParts K C 4 r) fr (ev_make (eva_cons (var_ (by rfl) hy) (eva_cons (evd_int (i := 0)) eva_nil)) ⟨rfl, inW W, r, 0, hnm, hrow, by decide, by decide, rfl, rfl⟩) fun v1 H1 G1 e1 p1 => ?_
  walk_at "nx"
  have hx1 := (PWeb CW W).mono e1.gg hx
  refine st_expr (Φ := PD K .none) e1.fr (ev_call (eva_cons (var_ (by rfl) hx1) (eva_cons (ev_meth (Φ := PParts K C 4 r) (var_ (by rfl) p1) (ppf_ins (by decide)) eva_nil ⟨rfl, inW W, r, by decide, hrow, rfl, rfl⟩) eva_nil)) ⟨rfl, W, wordsP 4 r, words_nm 4 r hrow.ok, rfl, rfl⟩ (.inl rfl)) fun v2 H2 G2 e2 _ => ?_
  walk_at "nx"
  exact st_ret e2.fr (ev_meth (Φ := PParts K C 4 r) (var_ (by rfl) ((PParts K C 4 r).mono e2.gg p1)) (ppf_ins (by decide)) (eva_cons (var_ (by rfl) ((PWeb CW W).mono e2.gg hx1)) eva_nil) ⟨rfl, W, r, hW, hrow, rfl, rfl⟩) (exq q (e1.trans e2))
end
end Fm
set_option maxHeartbeats 4000000
/-! FmZ: show_kind. -/
namespace Fm
open PySem PySem.Spec PyProof.Rows L2
local macro_rules | `(tactic| walk_at "nx") => `(tactic| try dsimp only [tSeq, tNext])
def rowF {α β : Type} (f : α → List β) : KF α → List (PF β)
  | .any => [.any]
  | .mk ns ss is => match ns.map PF.name ++ ss.map PF.span ++ is.map (fun k => PF.inner (f k)) with
    | [] => [.none]
    | p :: r => p :: r
/-- the row that tells a kind -/
def rowK : ∀ n, Kd n → List (Prt n)
  | 0 => fun _ => []
  | n + 1 => rowF (rowK n)
theorem mem_join {c : Nat} : ∀ {l : List Str}, c ∈ sg (joinB l) → c = 124 ∨ ∃ x ∈ l, c ∈ sg x
  | [], h => by cases h
  | [x], h => .inr ⟨x, List.mem_cons_self, h⟩
  | x :: y :: r, h => by
    unfold joinB at h
    rw [sg_join_cons] at h
    rcases List.mem_append.mp h with h | h
    · rcases List.mem_append.mp h with h | h
      · exact .inr ⟨x, List.mem_cons_self, h⟩
      · exact .inl (List.mem_singleton.mp h)
    · rcases mem_join (l := y :: r) h with h | ⟨z, hz, h⟩
      · exact .inl h
      · exact .inr ⟨z, List.mem_cons_of_mem _ hz, h⟩
theorem part_ascii {nm : Str → Prop} (hn : NmOk nm) : ∀ (n : Nat) (p : Prt n), POk nm n p → ∀ c ∈ sg (partT n p), c < 128
  | 0, p, _, _, _ => nomatch p
  | n + 1, .name x, h, c, hc => by
    have := isName_let (hn x h) c hc
    omega
  | n + 1, .none, _, c, hc => by
    have key : ∀ c ∈ sg ("none" : Str), c < 128 := by decide
    exact key c hc
  | n + 1, .any, _, c, hc => by
    have key : ∀ c ∈ sg ("any" : Str), c < 128 := by decide
    exact key c hc
  | n + 1, .span s, _, c, hc => Decidable.byContradiction fun z => spanT_free (s := s) (k := c) (by omega) (by omega) hc
  | n + 1, .inner r, h, c, hc => by
    rw [partT_inner, sg_br] at hc
    rcases List.mem_cons.mp hc with e | hc
    · omega
    · rcases List.mem_append.mp hc with hc | hc
      · rcases mem_join hc with e | ⟨x, hx, hc⟩
        · omega
        · obtain ⟨p, hp, rfl⟩ := List.mem_map.mp hx
          exact part_ascii hn n p (h.inner.2.2 p hp) c hc
      · have := List.mem_singleton.mp hc
        omega
theorem ascii_ok {x : Str} (h : ∀ c ∈ sg x, c < 128) : PyData.strOk x = true := by
  unfold PyData.strOk
  rw [← Array.all_toList, List.all_eq_true]
  intro c hc
  have := h c hc
  rw [decide_eq_true_eq]
  omega
theorem rowF_cases {α β : Type} (f : α → List β) (ns : List Str) (ss : List Span) (is : List α) : (ns.map PF.name ++ ss.map PF.span ++ is.map (fun k => PF.inner (f k)) = [] ∧ rowF f (.mk ns ss is) = [.none]) ∨ (ns.map PF.name ++ ss.map PF.span ++ is.map (fun k => PF.inner (f k)) ≠ [] ∧ rowF f (.mk ns ss is) = ns.map PF.name ++ ss.map PF.span ++ is.map (fun k => PF.inner (f k))) := by
  unfold rowF
  dsimp only
  generalize ns.map PF.name ++ ss.map PF.span ++ is.map (fun k => PF.inner (f k)) = L
  cases L with
  | nil => exact .inl ⟨rfl, rfl⟩
  | cons p r => exact .inr ⟨by simp, rfl⟩
theorem g_quad {K : PySem.W.Frag} {G H : Hp} {d e f g : PyData} {v : V} {n m k l : Nat} {σ : L2.St} {Q : L2.St → Hp → Prop} (h : Dp K G v (.tuple [d, e, f, g])) (s : Same G H) (q : ∀ x y z u, Dp K G x d → Dp K G y e → Dp K G z f → Dp K G u g → Q ((((σ.set n (some x)).set m (some y)).set k (some z)).set l (some u)) H) : gTup K 4 (gCons (gName n) (gCons (gName m) (gCons (gName k) (gCons (gName l) gNil)))) v σ H Q := by
  obtain ⟨a, xs, rfl, h1, h2⟩ := dp_tup h
  obtain ⟨x, y, z, u, rfl, p1, p2, p3, p4⟩ := dpall4 h2
  exact ⟨a, [x, y, z, u], rfl, Same.tup s h1, rfl, x, [y, z, u], rfl, y, [z, u], rfl, z, [u], rfl, u, [], rfl, rfl, q x y z u p1 p2 p3 p4⟩
section
variable {P : Program} {w : World} {K : PySem.W.Frag} {mg : Str → Option Value} {base : Heap}
def S_show_kind (K : PySem.W.Frag) (n : Nat) : Ow → List Pr → Pr → Prop := fun o Φs Ψ => o = .no ∧ ∃ nm, ∃ k : Kd n, NmOk nm ∧ n ≤ 4 ∧ ROk nm n (rowK n k) ∧ Φs = [PD K (kindD n k)] ∧ Ψ = PD K (.str (rowT n (rowK n k)))
theorem rowK_text {n : Nat} {ns : List Str} {ss : List Span} {is : List (Kd n)} (h : ns.map PF.name ++ ss.map PF.span ++ is.map (fun k => PF.inner (rowK n k)) ≠ ([] : List (PF (Prt n)))) : (rowK (n + 1) (.mk ns ss is)) = ns.map PF.name ++ ss.map PF.span ++ is.map (fun k => PF.inner (rowK n k)) := by
  show rowF (rowK n) (.mk ns ss is) = _
  unfold rowF
  dsimp only
  split
  · rename_i e; exact absurd e h
  · rename_i e; exact e.symm
theorem rowK_none {n : Nat} {ns : List Str} {ss : List Span} {is : List (Kd n)} (h : ns.map PF.name ++ ss.map PF.span ++ is.map (fun k => PF.inner (rowK n k)) = ([] : List (PF (Prt n)))) : (rowK (n + 1) (.mk ns ss is)) = [PF.none] := by
  show rowF (rowK n) (.mk ns ss is) = _
  unfold rowF
  dsimp only
  rw [h]
theorem ok_show_kind_step {n k : Nat} (hk : 2 ≤ k) (Z : Zs mg) (D_show_span : Def P w K mg base 2 "show_span" ["span"] (FnR K 1 R_show_span)) (D_show_kind : Def P w K mg base k "show_kind" ["kind"] (Fn (S_show_kind K n))) (A : At K mg "show_kind" s_show_kind) : Def P w K mg base (k + 1) "show_kind" ["kind"] (Fn (S_show_kind K (n + 1))) := by
  refine def_of A sc_show_kind (fun _ _ _ _ _ _ us hl => match us, hl with | [_], _ => rfl) (fun vs H Q E h => Fn.len (fun o Φs Ψ ⟨_, _, k, _, _, _, h3, _⟩ => by rw [h3] <;> rfl) h) fun f cdv A outer s H vs Q E hr h => ?_
  obtain ⟨_, _, _, G, ⟨rfl, nm, k, hnm, hn4, hrow, rfl, rfl⟩, fr, hv, q⟩ := h
  obtain ⟨x, rfl, hx⟩ := allp1 hv
  refine ⟨_, (pss_cons (ps_asg (pv 0) (kPgTup (K := K) (n := 4) rfl rfl (pgs_cons (pg_name (i := 1) sc_show_kind.nd rfl (.inl rfl)) (pgs_cons (pg_name (i := 2) sc_show_kind.nd rfl (.inl rfl)) (pgs_cons (pg_name (i := 3) sc_show_kind.nd rfl (.inl rfl)) (pgs_cons (pg_name (i := 4) sc_show_kind.nd rfl (.inl rfl)) pgs_nil))))))
    (pss_cons (ps_if (pt_val (pv 1)) (pss_one (ps_ret pe_str)) pss_nil)
    (pss_cons (ps_set (i := 5) sc_show_kind.nd rfl (.inl rfl) (pe_op op_cat (pe_op op_cat (pe_callTy (crLst (K := K) rfl) (by rfl) Z.list bt_list (pa_cons (pv 2) pa_nil)) (pe_lc (own := [("span", 6)]) (g := gName 6) (tt := tYes) rfl sc_show_kind.nd (kPiT (K := K) rfl (pv 3)) (blkOk_by (N := n_show_kind) (sc := (defScope s_show_kind)) (by decide +kernel)) (fun _ _ _ _ _ => (pg_name (i := 6) sc_show_kind.nd rfl (.inl rfl))) (fun _ _ _ _ _ => pts_nil) (fun _ _ _ _ _ => (pe_def D_show_span hr (by omega) (by rfl) (pa_cons (pv 6) pa_nil))))) (pe_lc (own := [("inner", 7)]) (g := gName 7) (tt := tYes) rfl sc_show_kind.nd (kPiT (K := K) rfl (pv 4)) (blkOk_by (N := n_show_kind) (sc := (defScope s_show_kind)) (by decide +kernel)) (fun _ _ _ _ _ => (pg_name (i := 7) sc_show_kind.nd rfl (.inl rfl))) (fun _ _ _ _ _ => pts_nil) (fun _ _ _ _ _ => (pe_op op_add_str (pe_op op_add_str pe_str (pe_def D_show_kind hr (by omega) (by rfl) (pa_cons (pv 7) pa_nil))) pe_str)))))
    (pss_cons (ps_if (pt_cmpR (kEqD (K := K) rfl hr.units) (pv 5) (pe_lst pa_nil) (nomark _)) (pss_one (ps_ret pe_str)) pss_nil)
    (pss_one (ps_ret (pe_join pe_str (pv 5)))))))), ?_⟩
  have hlen := row_len hnm hn4 hrow
  match k, hrow with
  | .any, hrow =>
    rw [kindD_any] at hx
    refine st_asg fr (var_ (Φ := PD K (.tuple [.bool true, .tuple [], .tuple [], .tuple []])) (by rfl) hx) fun v1 H1 G1 e1 p1 => ?_
    refine g_quad p1 e1.fr.sub fun a b c d ha hb hc hd => ?_
    walk_at "nx"
    refine st_yes e1.fr (evt_B (K := K) (var_ (by rfl) ha)) fun H2 G2 e2 => ?_
    exact st_ret e2.fr evd_str (exq q (e1.trans e2))
  | .mk ns ss is, hrow =>
    rw [kindD_mk] at hx
    refine st_asg fr (var_ (Φ := PD K (.tuple [.bool false, .tuple (ns.map .str), .tuple (ss.map spanD), .tuple (is.map (kindD n))])) (by rfl) hx) fun v1 H1 G1 e1 p1 => ?_
    refine g_quad p1 e1.fr.sub fun a b c d ha hb hc hd => ?_
    walk_at "nx"
    refine st_no e1.fr (evt_B (K := K) (var_ (by rfl) ha)) fun H2 G2 e2 => ?_
    walk_at "nx"
    generalize hL : (ns.map PF.name ++ ss.map PF.span ++ is.map (fun k => PF.inner (rowK n k)) : List (PF (Prt n))) = L
    have hok : ∀ p ∈ (rowF (rowK n) (.mk ns ss is) : List (PF (Prt n))), POk nm (n + 1) p := hrow.ok
    have hfew : List.length (rowF (rowK n) (.mk ns ss is) : List (PF (Prt n))) ≤ 12 := hrow.few
    have hcs := rowF_cases (rowK n) ns ss is
    rw [hL] at hcs
    have hP : ∀ p ∈ L, POk nm (n + 1) p := fun p hp => by
      rcases hcs with ⟨z, _⟩ | ⟨_, z⟩
      · rw [z] at hp; cases hp
      · exact hok p (by rw [z]; exact hp)
    have hLl : List.length L ≤ 12 := by
      rcases hcs with ⟨z, _⟩ | ⟨_, z⟩
      · rw [z]; exact Nat.zero_le _
      · rw [← z]; exact hfew
    have hcount : ns.length + ss.length + is.length = List.length L := by
      rw [← hL, List.length_append, List.length_append, List.length_map, List.length_map, List.length_map]
    have hspan : ∀ s ∈ ss, SpanOk s := fun s hs => hP (.span s) (by rw [← hL]; exact List.mem_append.mpr (.inl (List.mem_append.mpr (.inr (List.mem_map.mpr ⟨s, hs, rfl⟩)))))
    have hinn : ∀ k ∈ is, ROk nm n (rowK n k) := fun k hk => POk.row (hP (.inner (rowK n k)) (by rw [← hL]; exact List.mem_append.mpr (.inr (List.mem_map.mpr ⟨k, hk, rfl⟩))))
    have hT : (L.map (partF (partT n))).map PyData.str = (ns.map PyData.str ++ ss.map (fun s => PyData.str (spanT s))) ++ is.map (fun k => PyData.str ("[" ++ rowT n (rowK n k) ++ "]")) := by
      rw [← hL, List.map_append, List.map_append, List.map_append, List.map_append, List.map_map, List.map_map, List.map_map, List.map_map, List.map_map, List.map_map]
      rfl
    have e12 := e1.trans e2
    have hb2 := dsame hb e2.gg
    have hc2 := dsame hc e2.gg
    have hd2 := dsame hd e2.gg
    refine st_set (Φ := PN K ((L.map (partF (partT n))).map .str)) e2.fr ?_ fun v3 H3 G3 e3 p3 => ?_
    · rw [hT]
      refine catN_ (catN_ (lstN_ (var_ (Φ := PSq K (ns.map .str)) (by rfl) (ps_tup hb2))) (lcn1 (bs := ss) (Θ := fun s => PD K (spanD s)) (f := fun s => .str (spanT s)) (by decide) (ito_tupF (enc := spanD) (var_ (by rfl) hc2)) (by omega) fun s hs y G4 s4 hy => evd_call (ds := [spanD s]) (eva_cons (var_ (by rfl) hy) eva_nil) (by rfl) ⟨s, hspan s hs, rfl, rfl⟩) ?_) (lcn1 (bs := is) (Θ := fun k => PD K (kindD n k)) (f := fun k => .str ("[" ++ rowT n (rowK n k) ++ "]")) (by decide) (ito_tupF (enc := kindD n) (var_ (by rfl) hd2)) (by omega) fun k hk y G4 s4 hy => ?_) ?_
      · rw [List.length_map, List.length_map]; omega
      · have hl4 := row_len hnm (by omega) (hinn k hk)
        refine addS_ (addS_ evd_str (ev_call (Φs := [PD K (kindD n k)]) (eva_cons (var_ (by rfl) hy) eva_nil) ⟨rfl, nm, k, hnm, by omega, hinn k hk, rfl, rfl⟩ (.inl rfl)) (by rw [show ("[" : Str).length = 1 from rfl]; omega) rfl) evd_str ?_ rfl
        rw [len_sg, sg_app, List.length_append, ← len_sg, ← len_sg, show ("[" : Str).length = 1 from rfl, show ("]" : Str).length = 1 from rfl]
        omega
      · rw [List.length_append, List.length_map, List.length_map, List.length_map]; omega
    · walk_at "nx"
      have hnz : Nz 1 (.list ((L.map (partF (partT n))).map .str)) := nz_strs fun z hz => by
        obtain ⟨p, hp, rfl⟩ := List.mem_map.mp hz
        exact ascii_ok (part_ascii hnm (n + 1) p (hP p hp))
      refine st_if (b := decide (L = [])) e3.fr (evt_test (K := K) (eqD_ (d := .list ((L.map (partF (partT n))).map .str)) (e := .list []) (var_ (by rfl) (pn_d p3)) (evd_lst (ds := []) eva_nil (by decide)) (hnz.shaped (by decide)) (by rfl) ?_)) (fun c H4 G4 e4 => ?_) fun c H4 G4 e4 => ?_
      · rw [eqv_nil, List.isEmpty_map, List.isEmpty_map]
        cases L <;> rfl
      · have c := of_decide_eq_true c
        rcases hcs with ⟨_, z⟩ | ⟨z, _⟩
        · have e : rowT (n + 1) (rowK (n + 1) (.mk ns ss is)) = "none" := by
            show joinB ((rowF (rowK n) (.mk ns ss is)).map (partF (partT n))) = "none"
            rw [z]
            rfl
          rw [e] at q
          exact st_ret e4.fr evd_str (exq q ((e12.trans e3).trans e4))
        · exact absurd c z
      · have c := of_decide_eq_false c
        rcases hcs with ⟨z, _⟩ | ⟨_, z⟩
        · exact absurd z c
        · have e : rowT (n + 1) (rowK (n + 1) (.mk ns ss is)) = Str.join "|" (L.map (partF (partT n))) := by
            show joinB ((rowF (rowK n) (.mk ns ss is)).map (partF (partT n))) = _
            rw [z]
            rfl
          rw [e] at q
          walk_at "nx"
          refine st_ret e4.fr (join_ evd_str (var_ (by rfl) (dsame (pn_d p3) e4.gg)) ?_ rfl) (exq q ((e12.trans e3).trans e4))
          have h1 := sum_le (ps := L.map (partF (partT n))) (B := 6000) fun p hp => by
            obtain ⟨x, hx, rfl⟩ := List.mem_map.mp hp
            exact Nat.le_trans (part_len hnm (n + 1) x (hP x hx)) (lenB_le (n + 1) hn4)
          rw [List.length_map] at h1 ⊢
          rw [show ("|" : Str).length = 1 from rfl]
          omega
theorem ok_show_kinds (Z : Zs mg) (D_show_span : Def P w K mg base 2 "show_span" ["span"] (FnR K 1 R_show_span)) (A : At K mg "show_kind" s_show_kind) : ∀ n, Def P w K mg base (2 + n) "show_kind" ["kind"] (Fn (S_show_kind K n))
  | 0 => def_vac A sc_show_kind (fun _ _ _ _ _ _ us hl => match us, hl with | [_], _ => rfl) fun o Φs Ψ ⟨_, _, _, _, _, h, _⟩ => h.ne rfl
  | n + 1 => ok_show_kind_step (Nat.le_add_right 2 n) Z D_show_span (ok_show_kinds Z D_show_span A n) A
end
end Fm
set_option maxHeartbeats 4000000
/-! FmM2: plain mathematics of spans. -/
namespace Fm
/-! ### numbers of spans -/
def Has (s : Span) (n : Int) : Prop := (∀ a, s.1 = some a → a ≤ n) ∧ ∀ b, s.2 = some b → n ≤ b
def HasL (l : List Span) (n : Int) : Prop := ∃ s ∈ l, Has s n
theorem hasL_nil {n : Int} : ¬ HasL [] n := fun ⟨_, h, _⟩ => by cases h
theorem hasL_cons {s : Span} {l : List Span} {n : Int} : HasL (s :: l) n ↔ Has s n ∨ HasL l n :=
  ⟨fun ⟨t, h, k⟩ => (List.mem_cons.mp h).elim (fun e => .inl (e ▸ k)) fun h => .inr ⟨t, h, k⟩, fun h => h.elim (fun k => ⟨s, List.mem_cons_self, k⟩) fun ⟨t, h, k⟩ => ⟨t, List.mem_cons_of_mem _ h, k⟩⟩
theorem hasL_app {l m : List Span} {n : Int} : HasL (l ++ m) n ↔ HasL l n ∨ HasL m n :=
  ⟨fun ⟨t, h, k⟩ => (List.mem_append.mp h).elim (fun h => .inl ⟨t, h, k⟩) fun h => .inr ⟨t, h, k⟩, fun h => h.elim (fun ⟨t, h, k⟩ => ⟨t, List.mem_append.mpr (.inl h), k⟩) fun ⟨t, h, k⟩ => ⟨t, List.mem_append.mpr (.inr h), k⟩⟩
theorem hasL_one {s : Span} {n : Int} : HasL [s] n ↔ Has s n := ⟨fun ⟨t, h, k⟩ => List.mem_singleton.mp h ▸ k, fun h => ⟨s, List.mem_singleton.mpr rfl, h⟩⟩
theorem hasL_mem {l m : List Span} (h : ∀ s, s ∈ l ↔ s ∈ m) (n : Int) : HasL l n ↔ HasL m n :=
  ⟨fun ⟨t, a, k⟩ => ⟨t, (h t).mp a, k⟩, fun ⟨t, a, k⟩ => ⟨t, (h t).mpr a, k⟩⟩
theorem has_num : ∀ {s : Span}, hasNum s.1 s.2 = true → Has s (numOf s.1 s.2)
  | (none, none), _ => ⟨fun _ e => (nomatch e), fun _ e => (nomatch e)⟩
  | (none, some b), _ => ⟨fun _ e => (nomatch e), fun _ e => by (cases e); exact Int.le_refl _⟩
  | (some a, none), _ => ⟨fun _ e => by (cases e); exact Int.le_refl _, fun _ e => (nomatch e)⟩
  | (some a, some b), h => ⟨fun _ e => by (cases e); exact Int.le_refl _, fun _ e => by (cases e); exact of_decide_eq_true h⟩
theorem num_has {s : Span} {n : Int} (h : Has s n) : hasNum s.1 s.2 = true := by
  obtain ⟨lo, hi⟩ := s
  cases lo <;> cases hi <;> first | rfl | skip
  rename_i a b
  have h1 := h.1 a rfl
  have h2 := h.2 b rfl
  exact decide_eq_true (by omega)
theorem has_met {s t : Span} {n : Int} : Has (maxE s.1 t.1, lowH s.2 t.2) n ↔ Has s n ∧ Has t n := by
  obtain ⟨a, b⟩ := s
  obtain ⟨c, d⟩ := t
  have h1 : (∀ x, maxE a c = some x → x ≤ n) ↔ (∀ x, a = some x → x ≤ n) ∧ ∀ x, c = some x → x ≤ n := by
    cases a <;> cases c <;> simp [maxE]
    rename_i a c
    split <;> omega
  have h2 : (∀ x, lowH b d = some x → n ≤ x) ↔ (∀ x, b = some x → n ≤ x) ∧ ∀ x, d = some x → n ≤ x := by
    cases b <;> cases d <;> simp [lowH]
    rename_i b d
    split <;> omega
  unfold Has
  dsimp only
  rw [h1, h2]
  exact ⟨fun ⟨⟨p, q⟩, r, s⟩ => ⟨⟨p, r⟩, q, s⟩, fun ⟨⟨p, r⟩, q, s⟩ => ⟨⟨p, q⟩, r, s⟩⟩
theorem hasL_met {l m : List Span} {n : Int} : HasL (metS l m) n ↔ HasL l n ∧ HasL m n := by
  constructor
  · rintro ⟨u, h, k⟩
    obtain ⟨s, hs, h⟩ := List.mem_flatMap.mp h
    obtain ⟨t, ht, rfl⟩ := List.mem_map.mp h
    have := has_met.mp k
    exact ⟨⟨s, hs, this.1⟩, t, ht, this.2⟩
  · rintro ⟨⟨s, hs, h⟩, t, ht, k⟩
    exact ⟨_, List.mem_flatMap.mpr ⟨s, hs, List.mem_map.mpr ⟨t, ht, rfl⟩⟩, has_met.mpr ⟨h, k⟩⟩
/-! ### apart and in order -/
def Sp2 (s t : Span) : Prop := ∃ h a, s.2 = some h ∧ t.1 = some a ∧ h + 1 < a
structure Sep (l : List Span) : Prop where
  num : ∀ s ∈ l, hasNum s.1 s.2 = true
  pw : l.Pairwise Sp2
theorem sp2_has {s t : Span} {n m : Int} (h : Sp2 s t) (a : Has s n) (b : Has t m) : n + 1 < m := by
  obtain ⟨x, y, e1, e2, l⟩ := h
  have := a.2 x e1
  have := b.1 y e2
  omega
theorem Sep.nil : Sep [] := ⟨fun _ h => (by cases h), List.Pairwise.nil⟩
theorem Sep.of {s : Span} {l : List Span} (h : Sep (s :: l)) : Sep l := ⟨fun t ht => h.num t (List.mem_cons_of_mem _ ht), (List.pairwise_cons.mp h.pw).2⟩
/-- one covers the other -/
def covB (t s : Span) : Bool := (match t.1, s.1 with
  | none, _ => true
  | some a, some b => decide (a ≤ b)
  | some _, none => false) && (match t.2, s.2 with
  | none, _ => true
  | some a, some b => decide (b ≤ a)
  | some _, none => false)
theorem cov_iff {t s : Span} : covB t s = true ↔ (∀ a, t.1 = some a → ∃ b, s.1 = some b ∧ a ≤ b) ∧ ∀ a, t.2 = some a → ∃ b, s.2 = some b ∧ b ≤ a := by
  obtain ⟨a, b⟩ := t
  obtain ⟨c, d⟩ := s
  cases a <;> cases b <;> cases c <;> cases d <;> simp [covB]
theorem cov_has {t s : Span} {n : Int} (c : covB t s = true) (h : Has s n) : Has t n := by
  obtain ⟨c1, c2⟩ := cov_iff.mp c
  refine ⟨fun a e => ?_, fun a e => ?_⟩
  · obtain ⟨b, e2, l⟩ := c1 a e
    have := h.1 b e2
    omega
  · obtain ⟨b, e2, l⟩ := c2 a e
    have := h.2 b e2
    omega
theorem cov_anti {t s : Span} (a : covB t s = true) (b : covB s t = true) : t = s := by
  obtain ⟨x, y⟩ := t
  obtain ⟨z, w⟩ := s
  cases x <;> cases y <;> cases z <;> cases w <;> simp [covB] at a b ⊢ <;> omega
theorem cov_trans {t s u : Span} (a : covB t s = true) (b : covB s u = true) : covB t u = true := by
  obtain ⟨a1, a2⟩ := cov_iff.mp a
  obtain ⟨b1, b2⟩ := cov_iff.mp b
  refine cov_iff.mpr ⟨fun x e => ?_, fun x e => ?_⟩
  · obtain ⟨y, e2, l⟩ := a1 x e
    obtain ⟨z, e3, l2⟩ := b1 y e2
    exact ⟨z, e3, by omega⟩
  · obtain ⟨y, e2, l⟩ := a2 x e
    obtain ⟨z, e3, l2⟩ := b2 y e2
    exact ⟨z, e3, by omega⟩
theorem pw_two {α : Type} {R : α → α → Prop} : ∀ {l : List α}, l.Pairwise R → ∀ x ∈ l, ∀ y ∈ l, x = y ∨ R x y ∨ R y x
  | [], _, _, h, _, _ => by cases h
  | z :: l, p, x, hx, y, hy => by
    obtain ⟨p1, p2⟩ := List.pairwise_cons.mp p
    rcases List.mem_cons.mp hx with ex | hx <;> rcases List.mem_cons.mp hy with ey | hy
    · exact .inl (ex.trans ey.symm)
    · exact .inr (.inl (ex ▸ p1 y hy))
    · exact .inr (.inr (ey ▸ p1 x hx))
    · exact pw_two p2 x hx y hy
/-- what lies in spans apart lies in one of them -/
theorem Sep.cov {l : List Span} (h : Sep l) {s : Span} (hs : hasNum s.1 s.2 = true) (hl : ∀ n, Has s n → HasL l n) : ∃ t ∈ l, covB t s = true := by
  obtain ⟨t, ht, k⟩ := hl _ (has_num hs)
  have k0 := has_num hs
  refine ⟨t, ht, cov_iff.mpr ⟨fun a e => ?_, fun a e => ?_⟩⟩
  · refine Decidable.byContradiction fun z => ?_
    have ha := k.1 a e
    have m1 : Has s (a - 1) := ⟨fun b e2 => by
      refine Decidable.byContradiction fun y => z ⟨b, e2, by omega⟩, fun b e2 => by
      have := k0.2 b e2
      omega⟩
    obtain ⟨t', ht', k'⟩ := hl _ m1
    rcases pw_two h.pw t ht t' ht' with rfl | c | c
    · have := k'.1 a e
      omega
    · have := sp2_has c k k'
      omega
    · have ta : Has t a := ⟨fun x e2 => by rw [e] at e2; cases e2; exact Int.le_refl _, fun x e2 => by
        have := k.2 x e2
        omega⟩
      have := sp2_has c k' ta
      omega
  · refine Decidable.byContradiction fun z => ?_
    have ha := k.2 a e
    have m1 : Has s (a + 1) := ⟨fun b e2 => by
      have := k0.1 b e2
      omega, fun b e2 => by
      refine Decidable.byContradiction fun y => z ⟨b, e2, by omega⟩⟩
    obtain ⟨t', ht', k'⟩ := hl _ m1
    rcases pw_two h.pw t ht t' ht' with rfl | c | c
    · have := k'.2 a e
      omega
    · have ta : Has t a := ⟨fun x e2 => by
        have := k.1 x e2
        omega, fun x e2 => by rw [e] at e2; cases e2; exact Int.le_refl _⟩
      have := sp2_has c ta k'
      omega
    · have := sp2_has c k' k
      omega
theorem mem_one {α : Type} {R : α → α → Prop} (as : ∀ x y, R x y → R y x → False) : ∀ {l m : List α}, l.Pairwise R → m.Pairwise R → (∀ x, x ∈ l ↔ x ∈ m) → l = m
  | [], [], _, _, _ => rfl
  | [], y :: m, _, _, h => by have := (h y).mpr List.mem_cons_self; cases this
  | x :: l, [], _, _, h => by have := (h x).mp List.mem_cons_self; cases this
  | x :: l, y :: m, hl, hm, h => by
    obtain ⟨l1, l2⟩ := List.pairwise_cons.mp hl
    obtain ⟨m1, m2⟩ := List.pairwise_cons.mp hm
    have e : x = y := by
      rcases List.mem_cons.mp ((h x).mp List.mem_cons_self) with e | e
      · exact e
      · rcases List.mem_cons.mp ((h y).mpr List.mem_cons_self) with k | k
        · exact k.symm
        · exact (as _ _ (l1 y k) (m1 x e)).elim
    subst e
    rw [mem_one as l2 m2 fun z => ⟨fun hz => ?_, fun hz => ?_⟩]
    · rcases List.mem_cons.mp ((h z).mp (List.mem_cons_of_mem _ hz)) with e | e
      · rw [e] at hz; exact (as _ _ (l1 x hz) (l1 x hz)).elim
      · exact e
    · rcases List.mem_cons.mp ((h z).mpr (List.mem_cons_of_mem _ hz)) with e | e
      · rw [e] at hz; exact (as _ _ (m1 x hz) (m1 x hz)).elim
      · exact e
theorem Sep.mem {l m : List Span} (h : Sep l) (g : Sep m) (e : ∀ n, HasL l n ↔ HasL m n) {s : Span} (hs : s ∈ l) : s ∈ m := by
  have ns := h.num s hs
  obtain ⟨t, ht, c⟩ := g.cov ns fun n k => (e n).mp ⟨s, hs, k⟩
  obtain ⟨s', hs', c'⟩ := h.cov (g.num t ht) fun n k => (e n).mpr ⟨t, ht, k⟩
  have k := has_num ns
  have k' := cov_has c' (cov_has c k)
  have e2 : s = s' := by
    rcases pw_two h.pw s hs s' hs' with e | z | z
    · exact e
    · have := sp2_has z k k'; omega
    · have := sp2_has z k' k; omega
  subst e2
  rw [cov_anti c' c]
  exact ht
theorem Sep.one {l m : List Span} (h : Sep l) (g : Sep m) (e : ∀ n, HasL l n ↔ HasL m n) : l = m := by
  -- an empty relation's asymmetry needs numbers: keep them
  have hp : l.Pairwise fun s t => Sp2 s t ∧ hasNum s.1 s.2 = true ∧ hasNum t.1 t.2 = true := h.pw.imp_of_mem fun a b c => ⟨c, h.num _ a, h.num _ b⟩
  have gp : m.Pairwise fun s t => Sp2 s t ∧ hasNum s.1 s.2 = true ∧ hasNum t.1 t.2 = true := g.pw.imp_of_mem fun a b c => ⟨c, g.num _ a, g.num _ b⟩
  refine mem_one (fun x y a b => ?_) hp gp fun x => ⟨fun hx => h.mem g e hx, fun hx => g.mem h (fun n => (e n).symm) hx⟩
  have := sp2_has a.1 (has_num a.2.1) (has_num a.2.2)
  have := sp2_has b.1 (has_num b.2.1) (has_num b.2.2)
  omega
/-! ### merging -/
def lowLe (a b : Option Int) : Prop := ∀ y, b = none ∨ b = some y → ∀ x, a = some x → b ≠ none ∧ (b = some y → x ≤ y)
theorem lowLe_some {a : Option Int} {y x : Int} (h : lowLe a (some y)) (e : a = some x) : x ≤ y := ((h y (.inr rfl)) x e).2 rfl
theorem lowLe_none {a : Option Int} (h : lowLe a none) : a = none := by
  cases a with
  | none => rfl
  | some x => exact absurd rfl ((h 0 (.inl rfl)) x rfl).1
theorem has_join {l s : Span} (nl : hasNum l.1 l.2 = true) (ns : hasNum s.1 s.2 = true) (lo : lowLe l.1 s.1) (go : goesOn l.2 s.1 = true) (n : Int) : Has (l.1, topH l.2 s.2) n ↔ Has l n ∨ Has s n := by
  obtain ⟨a, b⟩ := l
  obtain ⟨c, d⟩ := s
  dsimp only at lo go nl ns ⊢
  cases c with
  | none =>
    rw [lowLe_none lo] at *
    cases b <;> cases d <;> simp [Has, topH]
    rename_i b d
    split <;> omega
  | some c =>
    cases a with
    | none => cases b <;> cases d <;> simp [Has, topH, goesOn, hasNum] at * <;> first | omega | (split <;> omega)
    | some a =>
      have := lowLe_some lo rfl
      cases b <;> cases d <;> simp [Has, topH, goesOn, hasNum] at * <;> first | omega | (split <;> omega)
structure Mg (L M : List Span) : Prop where
  sep : Sep M
  has : ∀ n, HasL M n ↔ HasL L n
  lows : ∀ t ∈ M, ∃ s ∈ L, s.1 = t.1
  highs : ∀ t ∈ M, ∃ s ∈ L, s.2 = t.2
theorem merge_ok : ∀ (k : Nat) (L : List Span), L.length = k → L.Pairwise (fun s t => lowLe s.1 t.1) → (∀ s ∈ L, hasNum s.1 s.2 = true) → Mg L (mergeS L)
  | 0, L, h, _, _ => by
    rw [List.eq_nil_of_length_eq_zero h]
    exact ⟨.nil, fun _ => Iff.rfl, fun _ h => (by cases h), fun _ h => (by cases h)⟩
  | k + 1, L, h, pw, nm => by
    obtain ⟨L', s, rfl⟩ : ∃ L' s, L = L' ++ [s] := by
      rcases List.eq_nil_or_concat L with e | ⟨L', s, e⟩
      · subst e; cases h
      · exact ⟨L', s, by rw [e, List.concat_eq_append]⟩
    rw [List.length_append, List.length_singleton] at h
    obtain ⟨p1, _, p2⟩ := List.pairwise_append.mp pw
    have ih := merge_ok k L' (by omega) p1 fun t ht => nm t (List.mem_append.mpr (.inl ht))
    have ns := nm s (List.mem_append.mpr (.inr (List.mem_singleton.mpr rfl)))
    have lo : ∀ t ∈ mergeS L', lowLe t.1 s.1 := fun t ht => by
      obtain ⟨u, hu, e⟩ := ih.lows t ht
      rw [← e]
      exact p2 u hu s (List.mem_singleton.mpr rfl)
    rw [mergeS_snoc]
    generalize mergeS L' = M at ih lo
    unfold stepM
    rcases List.eq_nil_or_concat M with e | ⟨M', l, e⟩
    · subst e
      dsimp only [List.getLast?_nil]
      refine ⟨⟨fun t ht => by rw [List.mem_singleton.mp ht]; exact ns, List.pairwise_singleton _ _⟩, fun n => ?_, fun t ht => ⟨s, by simp, by rw [List.mem_singleton.mp ht]⟩, fun t ht => ⟨s, by simp, by rw [List.mem_singleton.mp ht]⟩⟩
      rw [hasL_app, hasL_one]
      exact ⟨.inr, fun h => h.elim (fun h => (hasL_nil ((ih.has n).mpr h)).elim) id⟩
    · rw [List.concat_eq_append] at e
      subst e
      rw [List.getLast?_concat]
      dsimp only
      have ml : l ∈ M' ++ [l] := List.mem_append.mpr (.inr (List.mem_singleton.mpr rfl))
      have nl := ih.sep.num l ml
      obtain ⟨q1, _, q2⟩ := List.pairwise_append.mp ih.sep.pw
      split
      · rename_i go
        rw [List.dropLast_concat]
        have hj := has_join nl ns (lo l ml) go
        refine ⟨⟨fun t ht => ?_, List.pairwise_append.mpr ⟨q1, List.pairwise_singleton _ _, fun t ht u hu => ?_⟩⟩, fun n => ?_, fun t ht => ?_, fun t ht => ?_⟩
        · rcases List.mem_append.mp ht with ht | ht
          · exact ih.sep.num t (List.mem_append.mpr (.inl ht))
          · rw [List.mem_singleton.mp ht]
            exact num_has ((hj _).mpr (.inl (has_num nl)))
        · rw [List.mem_singleton.mp hu]
          exact q2 t ht l (List.mem_singleton.mpr rfl)
        · rw [hasL_app, hasL_app, hasL_one, hasL_one, hj n, ← ih.has n, hasL_app, hasL_one, or_assoc]
        · rcases List.mem_append.mp ht with ht | ht
          · obtain ⟨u, hu, e⟩ := ih.lows t (List.mem_append.mpr (.inl ht))
            exact ⟨u, List.mem_append.mpr (.inl hu), e⟩
          · rw [List.mem_singleton.mp ht]
            obtain ⟨u, hu, e⟩ := ih.lows l ml
            exact ⟨u, List.mem_append.mpr (.inl hu), e⟩
        · rcases List.mem_append.mp ht with ht | ht
          · obtain ⟨u, hu, e⟩ := ih.highs t (List.mem_append.mpr (.inl ht))
            exact ⟨u, List.mem_append.mpr (.inl hu), e⟩
          · rw [List.mem_singleton.mp ht]
            obtain ⟨u, hu, e⟩ := ih.highs l ml
            dsimp only
            rcases hb : l.2 with _ | b <;> rcases hd : s.2 with _ | d
            · exact ⟨s, by simp, by rw [hd] <;> rfl⟩
            · exact ⟨u, List.mem_append.mpr (.inl hu), by rw [e, hb] <;> rfl⟩
            · exact ⟨s, by simp, by rw [hd] <;> rfl⟩
            · by_cases c : b < d
              · exact ⟨s, by simp, by rw [hd]; simp [topH, c]⟩
              · exact ⟨u, List.mem_append.mpr (.inl hu), by rw [e, hb]; simp [topH, c]⟩
      · rename_i go
        have hgo : ∃ h a, l.2 = some h ∧ s.1 = some a ∧ h + 1 < a := by
          rcases hb : l.2 with _ | b
          · rw [hb] at go; exact absurd rfl go
          · rcases hd : s.1 with _ | d
            · rw [hb, hd] at go; exact absurd rfl go
            · rw [hb, hd] at go
              refine ⟨b, d, rfl, rfl, ?_⟩
              simp [goesOn] at go
              omega
        refine ⟨⟨fun t ht => ?_, List.pairwise_append.mpr ⟨ih.sep.pw, List.pairwise_singleton _ _, fun t ht u hu => ?_⟩⟩, fun n => ?_, fun t ht => ?_, fun t ht => ?_⟩
        · rcases List.mem_append.mp ht with ht | ht
          · exact ih.sep.num t ht
          · rw [List.mem_singleton.mp ht]; exact ns
        · rw [List.mem_singleton.mp hu]
          rcases List.mem_append.mp ht with ht | ht
          · obtain ⟨x, y, e1, e2, z⟩ := q2 t ht l (List.mem_singleton.mpr rfl)
            obtain ⟨h, a, f1, f2, g⟩ := hgo
            have k := has_num nl
            have := k.1 y e2
            have := k.2 h f1
            exact ⟨x, a, e1, f2, by omega⟩
          · rw [List.mem_singleton.mp ht]
            exact hgo
        · rw [hasL_app, ih.has n, ← hasL_app]
        · rcases List.mem_append.mp ht with ht | ht
          · obtain ⟨u, hu, e⟩ := ih.lows t ht
            exact ⟨u, List.mem_append.mpr (.inl hu), e⟩
          · exact ⟨s, by simp, by rw [List.mem_singleton.mp ht]⟩
        · rcases List.mem_append.mp ht with ht | ht
          · obtain ⟨u, hu, e⟩ := ih.highs t ht
            exact ⟨u, List.mem_append.mpr (.inl hu), e⟩
          · exact ⟨s, by simp, by rw [List.mem_singleton.mp ht]⟩
/-! ### gaps -/
theorem hasL_gaps : ∀ (l : List Span) (b : Option Int), Sep l → (∀ x, b = some x → ∀ s ∈ l, ∃ a, s.1 = some a ∧ x < a) → ∀ n, HasL (gapsS l b) n ↔ (∀ x, b = some x → x ≤ n) ∧ ¬ HasL l n
  | [], b, _, _, n => by
    rw [gapsS, hasL_one]
    exact ⟨fun h => ⟨h.1, hasL_nil⟩, fun h => ⟨h.1, fun _ e => nomatch e⟩⟩
  | (lo, hi) :: r, b, h, g, n => by
    obtain ⟨p1, p2⟩ := List.pairwise_cons.mp h.pw
    have nm := h.num _ List.mem_cons_self
    have k := has_num nm
    -- what is behind
    have T : HasL (gapsT r hi) n ↔ (∃ y, hi = some y ∧ y < n) ∧ ¬ HasL r n := by
      cases hi with
      | none => exact ⟨fun z => (hasL_nil z).elim, fun ⟨⟨y, e, _⟩, _⟩ => nomatch e⟩
      | some y =>
        show HasL (gapsS r (some (y + 1))) n ↔ _
        rw [hasL_gaps r (some (y + 1)) h.of (fun x e s hs => by
          cases e
          obtain ⟨u, a, e1, e2, l⟩ := p1 s hs
          cases e1
          exact ⟨a, e2, by omega⟩) n]
        exact ⟨fun ⟨a, c⟩ => ⟨⟨y, rfl, by have := a _ rfl; omega⟩, c⟩, fun ⟨⟨y', e, a⟩, c⟩ => ⟨fun x e2 => by cases e; cases e2; omega, c⟩⟩
    have Hd : HasL (gapsH b lo) n ↔ (∀ x, b = some x → x ≤ n) ∧ ∃ y, lo = some y ∧ n < y := by
      cases lo with
      | none => exact ⟨fun z => (hasL_nil z).elim, fun ⟨_, y, e, _⟩ => nomatch e⟩
      | some y =>
        show HasL [(b, some (y - 1))] n ↔ _
        rw [hasL_one]
        exact ⟨fun ⟨a, c⟩ => ⟨a, y, rfl, by have := c _ rfl; omega⟩, fun ⟨a, y', e, c⟩ => ⟨a, fun x e2 => by cases e; cases e2; omega⟩⟩
    rw [gapsS_cons, hasL_app, Hd, T, hasL_cons]
    constructor
    · rintro (⟨a, y, e, c⟩ | ⟨⟨y, e, c⟩, d⟩)
      · refine ⟨a, fun z => z.elim (fun z => ?_) fun ⟨s, hs, z⟩ => ?_⟩
        · have := z.1 y e; omega
        · have k1 := k.1 y e
          have := sp2_has (p1 s hs) k z
          omega
      · refine ⟨fun x e2 => ?_, fun z => z.elim (fun z => ?_) d⟩
        · obtain ⟨a, e3, l⟩ := g x e2 _ List.mem_cons_self
          have := k.1 a e3
          have := k.2 y e
          omega
        · have := z.2 y e; omega
    · rintro ⟨a, c⟩
      by_cases z : ∃ y, lo = some y ∧ n < y
      · exact .inl ⟨a, z⟩
      · refine .inr ⟨?_, fun d => c (.inr d)⟩
        refine Decidable.byContradiction fun w => c (.inl ⟨fun y e => ?_, fun y e => ?_⟩)
        · exact Decidable.byContradiction fun q => z ⟨y, e, by omega⟩
        · exact Decidable.byContradiction fun q => w ⟨y, e, by omega⟩
end Fm
namespace Fm
open PySem PySem.Spec PyProof.Rows L2
theorem spanLe_leD (a b : Span) : spanLe a b = leD (spanD a) (spanD b) := rfl
theorem spanLe_low {a b : Span} (h : spanLe a b = true) : lowLe a.1 b.1 := by
  rw [spanLe_leD] at h
  unfold leD at h
  rw [Bool.not_eq_true'] at h
  unfold spanD at h
  rw [PySem.W.dataLt_tuple, PySem.W.dataLt_cons (endD_alike _ _)] at h
  rw [endD_eqv] at h
  by_cases e : b.1 = a.1
  · rw [← e]
    intro y hy x hx
    rw [hx]
    exact ⟨fun z => (nomatch z), fun z => by (cases z); exact Int.le_refl _⟩
  · rw [if_neg (by rw [decide_eq_true_eq]; exact e), endD_lt] at h
    intro y hy x hx
    rw [hx] at h
    rcases hb : b.1 with _ | z
    · rw [hb] at h; cases h
    · rw [hb] at h
      have := of_decide_eq_false h
      exact ⟨fun z => (nomatch z), fun e => by (cases e); omega⟩
theorem srtS_pw (ss : List Span) : (srtS ss).Pairwise fun s t => lowLe s.1 t.1 :=
  (List.pairwise_mergeSort (le := spanLe) (fun a b c => leD_trans (spanD a) (spanD b) (spanD c)) (fun a b => leD_total (spanD a) (spanD b)) ss).imp fun h => spanLe_low h
theorem srtS_mem {ss : List Span} {s : Span} : s ∈ srtS ss ↔ s ∈ ss := (List.mergeSort_perm ss spanLe).mem_iff
theorem formedS_mg (ss : List Span) : Mg (srtS (ss.filter fun s => hasNum s.1 s.2)) (formedS ss) :=
  merge_ok _ _ rfl (srtS_pw _) fun s hs => (List.mem_filter.mp (srtS_mem.mp hs)).2
theorem formedS_sep (ss : List Span) : Sep (formedS ss) := (formedS_mg ss).sep
theorem formedS_has (ss : List Span) (n : Int) : HasL (formedS ss) n ↔ HasL ss n := by
  rw [(formedS_mg ss).has n, hasL_mem (fun s => srtS_mem) n]
  exact ⟨fun ⟨s, h, k⟩ => ⟨s, (List.mem_filter.mp h).1, k⟩, fun ⟨s, h, k⟩ => ⟨s, List.mem_filter.mpr ⟨h, num_has k⟩, k⟩⟩
theorem formedS_one {l m : List Span} (h : ∀ n, HasL l n ↔ HasL m n) : formedS l = formedS m :=
  (formedS_sep l).one (formedS_sep m) fun n => by rw [formedS_has, formedS_has, h n]
theorem formedS_self {l : List Span} (h : Sep l) : formedS l = l := (formedS_sep l).one h (formedS_has l)
theorem formedS_idem (l : List Span) : formedS (formedS l) = formedS l := formedS_self (formedS_sep l)
theorem formedS_mem {l m : List Span} (h : ∀ s, s ∈ l ↔ s ∈ m) : formedS l = formedS m := formedS_one (hasL_mem h)
theorem SpanOk.num {s : Span} (h : SpanOk s) : hasNum s.1 s.2 = true := by
  obtain ⟨a, b⟩ := s
  cases a <;> cases b <;> first | rfl | exact decide_eq_true (h.le _ _ rfl rfl)
theorem formedS_ok {ss : List Span} (h : ∀ s ∈ ss, SpanOk s) : ∀ s ∈ formedS ss, SpanOk s := fun s hs => by
  obtain ⟨t, ht, e1⟩ := (formedS_mg ss).lows s hs
  obtain ⟨u, hu, e2⟩ := (formedS_mg ss).highs s hs
  refine ⟨e1 ▸ (h t (List.mem_filter.mp (srtS_mem.mp ht)).1).lo, e2 ▸ (h u (List.mem_filter.mp (srtS_mem.mp hu)).1).hi, fun a b ha hb => ?_⟩
  have k := has_num ((formedS_sep ss).num s hs)
  have := k.1 a ha
  have := k.2 b hb
  omega
theorem formedS_all {ss : List Span} (h : ∀ s ∈ ss, hasNum s.1 s.2 = true) : formedS ss = mergeS (srtS ss) := by
  unfold formedS
  rw [List.filter_eq_self.mpr h]
theorem apart_nil {a b : List Span} : (apartS a b).isEmpty = true ↔ ∀ n, HasL a n → HasL b n := by
  have g : ∀ n, HasL (formedS (metS a (gapsS (formedS b) none))) n ↔ HasL a n ∧ ¬ HasL b n := fun n => by
    rw [formedS_has, hasL_met, hasL_gaps (formedS b) none (formedS_sep b) (fun x (e : none = some x) => (nomatch e)) n, formedS_has]
    exact ⟨fun ⟨p, _, q⟩ => ⟨p, q⟩, fun ⟨p, q⟩ => ⟨p, fun _ e => (nomatch e), q⟩⟩
  have nm := (formedS_sep (metS a (gapsS (formedS b) none))).num
  unfold apartS
  generalize formedS (metS a (gapsS (formedS b) none)) = F at g nm
  cases F with
  | nil =>
    refine ⟨fun _ n h => Classical.byContradiction fun z => ?_, fun _ => rfl⟩
    exact hasL_nil ((g n).mpr ⟨h, z⟩)
  | cons s r =>
    refine ⟨fun h => (nomatch h), fun h => ?_⟩
    have k := has_num (nm s List.mem_cons_self)
    have z := (g _).mp ⟨s, List.mem_cons_self, k⟩
    exact absurd (h _ z.1) z.2
theorem apart_cov {a b : List Span} (ha : ∀ s ∈ a, hasNum s.1 s.2 = true) (hb : Sep b) : (apartS a b).isEmpty = a.all fun s => b.any fun t => covB t s := by
  rw [Bool.eq_iff_iff, apart_nil, List.all_eq_true]
  refine ⟨fun h s hs => ?_, fun h n ⟨s, hs, k⟩ => ?_⟩
  · obtain ⟨t, ht, c⟩ := hb.cov (ha s hs) fun n k => h n ⟨s, hs, k⟩
    exact List.any_eq_true.mpr ⟨t, ht, c⟩
  · obtain ⟨t, ht, c⟩ := List.any_eq_true.mp (h s hs)
    exact ⟨t, ht, cov_has c k⟩
end Fm
set_option maxHeartbeats 4000000
/-! FmM3: plain mathematics of webs and kinds. -/
namespace Fm
open PySem PySem.Spec PyProof.Rows L2
/-! ### webs -/
theorem lookup_webOf (x : Str) : ∀ W : Wb, (webOf W).lookup x = (W.lookup x).map sortN
  | [] => rfl
  | (k, l) :: W => by
    show List.lookup x ((k, sortN l) :: webOf W) = _
    rw [List.lookup_cons, List.lookup_cons, lookup_webOf x W]
    cases x == k <;> rfl
theorem over_webOf {W : Wb} {x y : Str} : y ∈ overW (webOf W) x ↔ y ∈ overW W x := by
  unfold overW
  rw [lookup_webOf]
  cases W.lookup x with
  | none => exact Iff.rfl
  | some l => exact encS.mem_ss
theorem reach_webOf {W : Wb} {x y : Str} : Reach (webOf W) x y ↔ Reach W x y := by
  constructor
  · intro h
    induction h with
    | refl => exact .refl
    | step _ hz ih => exact ih.step (over_webOf.mp hz)
  · intro h
    induction h with
    | refl => exact .refl
    | step _ hz ih => exact ih.step (over_webOf.mpr hz)
theorem below_webOf (W : Wb) : below (webOf W) = below W := by
  funext x y
  rw [Bool.eq_iff_iff, below_iff, below_iff, reach_webOf]
/-! ### lists -/
theorem any_one {α : Type} {l m : List α} (h : ∀ x, x ∈ l ↔ x ∈ m) (p : α → Bool) : l.any p = m.any p := by
  rw [Bool.eq_iff_iff, List.any_eq_true, List.any_eq_true]
  exact ⟨fun ⟨x, a, b⟩ => ⟨x, (h x).mp a, b⟩, fun ⟨x, a, b⟩ => ⟨x, (h x).mpr a, b⟩⟩
theorem any_same {α : Type} {l : List α} {p q : α → Bool} (h : ∀ x ∈ l, p x = q x) : l.any p = l.any q := by
  rw [Bool.eq_iff_iff, List.any_eq_true, List.any_eq_true]
  exact ⟨fun ⟨x, a, b⟩ => ⟨x, a, h x a ▸ b⟩, fun ⟨x, a, b⟩ => ⟨x, a, (h x a).symm ▸ b⟩⟩
theorem all_same {α : Type} {l : List α} {p q : α → Bool} (h : ∀ x ∈ l, p x = q x) : l.all p = l.all q := by
  rw [Bool.eq_iff_iff, List.all_eq_true, List.all_eq_true]
  exact ⟨fun z x a => h x a ▸ z x a, fun z x a => (h x a).symm ▸ z x a⟩
/-! ### tops, outer ones -/
section
variable {bel : Str → Str → Bool}
theorem topsB_one {l m : List Str} (h : ∀ x, x ∈ l ↔ x ∈ m) : topsB bel l = topsB bel m := by
  unfold topsB
  rw [show sortN l = sortN m from encS.ss_one h]
  congr 1
  funext n
  unfold topB'
  rw [any_one h]
theorem topsB_idem (l : List Str) : topsB bel (topsB bel l) = topsB bel l := by
  have e : sortN (topsB bel l) = topsB bel l := encS.ss_self ((encS.ss_pw l).filter _) ((encS.nd_ss l).filter _)
  have f : (sortN (topsB bel l)).filter (topB' bel (topsB bel l)) = sortN (topsB bel l) := List.filter_eq_self.mpr fun x hx => by
    rw [e] at hx
    have h := (List.mem_filter.mp hx).2
    unfold topB' at h ⊢
    rw [Bool.not_eq_true'] at h ⊢
    rw [List.any_eq_false] at h ⊢
    exact fun y hy => h y (topsB_mem hy)
  exact f.trans e
section
variable {α : Type} [DecidableEq α] {E : Enc α} {w w' : α → α → Bool}
theorem outF_one {l m : List α} (h : ∀ x, x ∈ l ↔ x ∈ m) : outF E w l = outF E w m := by
  unfold outF
  rw [E.ss_one h]
theorem outF_idem (l : List α) : outF E w (outF E w l) = outF E w l := by
  have e : E.ss (outF E w l) = outF E w l := E.ss_self ((E.ss_pw l).filter _) ((E.nd_ss l).filter _)
  have f : (E.ss (outF E w l)).filter (outB w (E.ss (outF E w l))) = E.ss (outF E w l) := List.filter_eq_self.mpr fun x hx => by
    rw [e] at hx ⊢
    have h := (List.mem_filter.mp hx).2
    unfold outB at h ⊢
    rw [Bool.not_eq_true'] at h ⊢
    rw [List.any_eq_false] at h ⊢
    exact fun y hy => h y (List.mem_filter.mp hy).1
  exact f.trans e
theorem outF_same {l : List α} (h : ∀ a ∈ l, ∀ b ∈ l, w a b = w' a b) : outF E w l = outF E w' l := by
  unfold outF
  refine List.filter_congr fun x hx => ?_
  unfold outB
  rw [any_same fun y hy => ?_]
  rw [h x (E.mem_ss.mp hx) y (E.mem_ss.mp hy)]
end
/-! ### kinds in one form -/
def FKF (bel : Str → Str → Bool) (n : Nat) (f : Kd n → Prop) : KF (Kd n) → Prop
  | .any => True
  | .mk ns ss is => topsB bel ns = ns ∧ Sep ss ∧ outK bel n is = is ∧ ∀ k ∈ is, f k
def FK (bel : Str → Str → Bool) : ∀ n, Kd n → Prop
  | 0 => fun _ => True
  | n + 1 => FKF bel n (FK bel n)
theorem FK.mk {n : Nat} {ns : List Str} {ss : List Span} {is : List (Kd n)} (h : FK bel (n + 1) (.mk ns ss is)) : topsB bel ns = ns ∧ Sep ss ∧ outK bel n is = is ∧ ∀ k ∈ is, FK bel n k := h
theorem map_same {α : Type} {f : α → α} {l : List α} (h : ∀ x ∈ l, f x = x) : l.map f = l := by
  rw [List.map_congr_left h, List.map_id']
theorem reK_self : ∀ (n : Nat) (k : Kd n), FK bel n k → reK bel n k = k
  | 0, _, _ => rfl
  | n + 1, .any, _ => rfl
  | n + 1, .mk ns ss is, h => by
    obtain ⟨h1, h2, h3, h4⟩ := h.mk
    show (KF.mk (topsB bel ns) (formedS ss) (outK bel n (is.map (reK bel n))) : KF (Kd n)) = .mk ns ss is
    rw [map_same fun k hk => reK_self n k (h4 k hk), h1, formedS_self h2, h3]
theorem kindP_FK : ∀ (n : Nat) (r : List (Prt n)), FK bel n (kindP bel n r)
  | 0, _ => True.intro
  | n + 1, r => by
    cases e : hasAny (α := Prt n) r with
    | true => rw [kindP_any e]; exact True.intro
    | false =>
      rw [kindP_mk e]
      refine ⟨topsB_idem _, formedS_sep _, outF_idem _, fun k hk => ?_⟩
      have hk := outK_mem hk
      obtain ⟨k', hk', rfl⟩ := List.mem_map.mp hk
      obtain ⟨r', _, rfl⟩ := List.mem_map.mp hk'
      rw [reK_self n _ (kindP_FK n r')]
      exact kindP_FK n r'
theorem fm_one {α β : Type} {l m : List α} (h : ∀ x, x ∈ l ↔ x ∈ m) (f : α → Option β) (y : β) : y ∈ l.filterMap f ↔ y ∈ m.filterMap f := by
  rw [List.mem_filterMap, List.mem_filterMap]
  exact ⟨fun ⟨x, a, b⟩ => ⟨x, (h x).mp a, b⟩, fun ⟨x, a, b⟩ => ⟨x, (h x).mpr a, b⟩⟩
theorem map_one {α β : Type} {l m : List α} (h : ∀ x, x ∈ l ↔ x ∈ m) (f : α → β) (y : β) : y ∈ l.map f ↔ y ∈ m.map f := by
  rw [List.mem_map, List.mem_map]
  exact ⟨fun ⟨x, a, b⟩ => ⟨x, (h x).mp a, b⟩, fun ⟨x, a, b⟩ => ⟨x, (h x).mpr a, b⟩⟩
theorem kindP_one {n : Nat} {r s : List (PF (Prt n))} (h : ∀ p, p ∈ r ↔ p ∈ s) : kindP bel (n + 1) r = kindP bel (n + 1) s := by
  have e : hasAny r = hasAny s := any_one h _
  cases e2 : hasAny r with
  | true => rw [kindP_any e2, kindP_any (e ▸ e2)]
  | false =>
    rw [kindP_mk e2, kindP_mk (e ▸ e2)]
    unfold formK
    have e1 : topsB bel (namesP r) = topsB bel (namesP s) := topsB_one (fm_one h _)
    have e3 : formedS (spansP r) = formedS (spansP s) := formedS_mem (fm_one h _)
    have e4 : outK bel n (((innersP r).map (kindP bel n)).map (reK bel n)) = outK bel n (((innersP s).map (kindP bel n)).map (reK bel n)) := outF_one (map_one (map_one (fm_one h _) _) _)
    rw [e1, e3, e4]
theorem turn_mem {α : Type} (r : List α) (p : α) : p ∈ r.reverse ++ r.take 1 ↔ p ∈ r := by
  rw [List.mem_append, List.mem_reverse]
  exact ⟨fun h => h.elim id List.mem_of_mem_take, .inl⟩
/-! ### read again -/
section
variable {α : Type}
theorem namesP_names (l : List Str) : namesP (l.map PF.name : List (PF α)) = l := by
  induction l with
  | nil => rfl
  | cons x l ih => show x :: namesP (l.map PF.name : List (PF α)) = _; rw [ih]
theorem namesP_spans (l : List Span) : namesP (l.map PF.span : List (PF α)) = [] := by
  induction l with
  | nil => rfl
  | cons x l ih => exact ih
theorem namesP_inners {β : Type} (f : β → List α) (l : List β) : namesP (l.map fun k => PF.inner (f k)) = [] := by
  induction l with
  | nil => rfl
  | cons x l ih => exact ih
theorem spansP_names (l : List Str) : spansP (l.map PF.name : List (PF α)) = [] := by
  induction l with
  | nil => rfl
  | cons x l ih => exact ih
theorem spansP_spans (l : List Span) : spansP (l.map PF.span : List (PF α)) = l := by
  induction l with
  | nil => rfl
  | cons x l ih => show x :: spansP (l.map PF.span : List (PF α)) = _; rw [ih]
theorem spansP_inners {β : Type} (f : β → List α) (l : List β) : spansP (l.map fun k => PF.inner (f k)) = [] := by
  induction l with
  | nil => rfl
  | cons x l ih => exact ih
theorem innersP_names (l : List Str) : innersP (l.map PF.name : List (PF α)) = [] := by
  induction l with
  | nil => rfl
  | cons x l ih => exact ih
theorem innersP_spans (l : List Span) : innersP (l.map PF.span : List (PF α)) = [] := by
  induction l with
  | nil => rfl
  | cons x l ih => exact ih
theorem innersP_inners {β : Type} (f : β → List α) (l : List β) : innersP (l.map fun k => PF.inner (f k)) = l.map f := by
  induction l with
  | nil => rfl
  | cons x l ih => show f x :: innersP (l.map fun k => PF.inner (f k)) = _; rw [ih, List.map_cons]
theorem hasAny_names (l : List Str) : hasAny (l.map PF.name : List (PF α)) = false := by
  induction l with
  | nil => rfl
  | cons x l ih => exact ih
theorem hasAny_spans (l : List Span) : hasAny (l.map PF.span : List (PF α)) = false := by
  induction l with
  | nil => rfl
  | cons x l ih => exact ih
theorem hasAny_inners {β : Type} (f : β → List α) (l : List β) : hasAny (l.map fun k => PF.inner (f k)) = false := by
  induction l with
  | nil => rfl
  | cons x l ih => exact ih
end
theorem rowF_parts {n : Nat} (ns : List Str) (ss : List Span) (is : List (Kd n)) : hasAny (rowF (rowK n) (.mk ns ss is)) = false ∧ namesP (rowF (rowK n) (.mk ns ss is)) = ns ∧ spansP (rowF (rowK n) (.mk ns ss is)) = ss ∧ innersP (rowF (rowK n) (.mk ns ss is)) = is.map (rowK n) := by
  rcases rowF_cases (rowK n) ns ss is with ⟨z, e⟩ | ⟨z, e⟩
  · rw [e]
    have h1 : ns = [] := by cases ns <;> first | rfl | cases z
    subst h1
    have h2 : ss = [] := by cases ss <;> first | rfl | cases z
    subst h2
    have h3 : is = [] := by cases is <;> first | rfl | cases z
    subst h3
    exact ⟨rfl, rfl, rfl, rfl⟩
  · rw [e, hasAny_app, hasAny_app, namesP_app, namesP_app, spansP_app, spansP_app, innersP_app, innersP_app, hasAny_names, hasAny_spans, hasAny_inners, namesP_names, namesP_spans, namesP_inners, spansP_names, spansP_spans, spansP_inners, innersP_names, innersP_spans, innersP_inners]
    simp
theorem kindP_rowK : ∀ (n : Nat) (k : Kd n), FK bel n k → kindP bel n (rowK n k) = k
  | 0, _, _ => rfl
  | n + 1, .any, _ => rfl
  | n + 1, .mk ns ss is, h => by
    obtain ⟨h1, h2, h3, h4⟩ := h.mk
    obtain ⟨r1, r2, r3, r4⟩ := rowF_parts (n := n) ns ss is
    show kindP bel (n + 1) (rowF (rowK n) (.mk ns ss is)) = _
    rw [kindP_mk r1, r2, r3, r4, List.map_map]
    rw [map_same (f := kindP bel n ∘ rowK n) fun k hk => kindP_rowK n k (h4 k hk)]
    exact reK_self (n + 1) (.mk ns ss is) h
theorem rowK_ok {nm : Str → Prop} : ∀ (n B : Nat) (r : List (Prt n)), r ≠ [] ∧ r.length ≤ B ∧ (∀ p ∈ r, POk nm n p) → rowK n (kindP bel n r) ≠ [] ∧ (rowK n (kindP bel n r)).length ≤ B ∧ ∀ p ∈ rowK n (kindP bel n r), POk nm n p
  | 0, _, r, ⟨h, _, _⟩ => by
    cases r with
    | nil => exact absurd rfl h
    | cons p r => exact nomatch p
  | n + 1, B, r, ⟨h, hl, hp⟩ => by
    have hr : 1 ≤ List.length (α := PF (Prt n)) r := List.length_pos_iff.mpr h
    have hB : 1 ≤ B := Nat.le_trans hr hl
    cases e : hasAny (α := Prt n) r with
    | true =>
      rw [kindP_any e]
      refine ⟨fun z => (nomatch z), hB, fun p hp => ?_⟩
      have : p = (PF.any : PF (Prt n)) := List.mem_singleton.mp hp
      rw [this]
      exact True.intro
    | false =>
      rw [kindP_mk e]
      unfold formK
      have c1 := topsB_len (bel := bel) (l := namesP (α := Prt n) r)
      have c2 := formedS_len (spansP (α := Prt n) r)
      have c3 := outK_len (bel := bel) (l := ((innersP (α := Prt n) r).map (kindP bel n)).map (reK bel n))
      rw [List.length_map, List.length_map] at c3
      have c4 := parts_count (α := Prt n) r
      have o2 := formedS_ok (ss := spansP (α := Prt n) r) fun s hs => hp _ (span_mem hs)
      have o1 : ∀ x ∈ topsB bel (namesP (α := Prt n) r), nm x := fun x hx => hp _ (name_mem (topsB_mem hx))
      have o3 : ∀ k ∈ outK bel n (((innersP (α := Prt n) r).map (kindP bel n)).map (reK bel n)), POk nm (n + 1) (.inner (rowK n k)) := fun k hk => by
        obtain ⟨k', hk', rfl⟩ := List.mem_map.mp (outK_mem hk)
        obtain ⟨r', hr', rfl⟩ := List.mem_map.mp hk'
        rw [reK_self n _ (kindP_FK n r')]
        exact rowK_ok n 3 r' (POk.inner (hp _ (inner_mem hr')))
      generalize topsB bel (namesP (α := Prt n) r) = ns at *
      generalize formedS (spansP (α := Prt n) r) = ss at *
      generalize outK bel n (((innersP (α := Prt n) r).map (kindP bel n)).map (reK bel n)) = is at *
      show rowF (rowK n) (.mk ns ss is) ≠ [] ∧ List.length (rowF (rowK n) (.mk ns ss is)) ≤ B ∧ ∀ p ∈ rowF (rowK n) (.mk ns ss is), POk nm (n + 1) p
      rcases rowF_cases (rowK n) ns ss is with ⟨z, e⟩ | ⟨z, e⟩
      · rw [e]
        refine ⟨fun z => (nomatch z), hB, fun p hp => ?_⟩
        rw [List.mem_singleton.mp hp]
        exact True.intro
      · rw [e]
        refine ⟨z, ?_, fun p hp => ?_⟩
        · rw [List.length_append, List.length_append, List.length_map, List.length_map, List.length_map]
          have hl : List.length (α := PF (Prt n)) r ≤ B := hl
          omega
        · rcases List.mem_append.mp hp with hp | hp
          · rcases List.mem_append.mp hp with hp | hp
            · obtain ⟨x, hx, rfl⟩ := List.mem_map.mp hp
              exact o1 x hx
            · obtain ⟨x, hx, rfl⟩ := List.mem_map.mp hp
              exact o2 x hx
          · obtain ⟨x, hx, rfl⟩ := List.mem_map.mp hp
            exact o3 x hx
theorem ROk.row {nm : Str → Prop} {n : Nat} {r : List (Prt n)} (h : ROk nm n r) : ROk nm n (rowK n (kindP bel n r)) := by
  obtain ⟨a, b, c⟩ := rowK_ok (bel := bel) n 12 r ⟨h.ne, h.few, h.ok⟩
  exact ⟨a, b, c⟩
/-! ### lies -/
def liesF (bel : Str → Str → Bool) {α : Type} (w : α → α → Bool) : KF α → KF α → Bool
  | _, .any => true
  | .any, .mk _ _ _ => false
  | .mk a b c, .mk a' b' c' => nameIn bel a a' && ((b.all fun s => b'.any fun t => covB t s) && c.all fun x => c'.any fun y => w x y)
def liesK (bel : Str → Str → Bool) : ∀ n, Kd n → Kd n → Bool
  | 0 => fun _ _ => true
  | n + 1 => liesF bel (liesK bel n)
theorem lies_within : ∀ (n : Nat) (a b : Kd n), FK bel n a → FK bel n b → liesK bel n a b = withinK bel n a b
  | 0, _, _, _, _ => rfl
  | n + 1, .any, .any, _, _ => rfl
  | n + 1, .mk _ _ _, .any, _, _ => rfl
  | n + 1, .any, .mk _ _ _, _, _ => rfl
  | n + 1, .mk a b c, .mk a' b' c', h, g => by
    obtain ⟨_, h2, _, h4⟩ := h.mk
    obtain ⟨_, g2, _, g4⟩ := g.mk
    show (nameIn bel a a' && ((b.all fun s => b'.any fun t => covB t s) && c.all fun x => c'.any fun y => liesK bel n x y)) = (nameIn bel a a' && ((apartS b b').isEmpty && c.all fun x => c'.any fun y => withinK bel n x y))
    rw [apart_cov h2.num g2]
    congr 2
    exact all_same fun x hx => any_same fun y hy => lies_within n x y (h4 x hx) (g4 y hy)
theorem outL_eq {n : Nat} {l : List (Kd n)} (h : ∀ k ∈ l, FK bel n k) : outF (encK n) (liesK bel n) l = outK bel n (l.map (reK bel n)) := by
  rw [map_same fun k hk => reK_self n k (h k hk)]
  exact outF_same fun a ha b hb => lies_within n a b (h a ha) (h b hb)
end
end Fm
set_option maxHeartbeats 4000000
/-! FmLA: the law's cell and take. -/
namespace Fm
open PySem PySem.Spec PyProof.Rows L2
local macro_rules | `(tactic| walk_at "nx") => `(tactic| try dsimp only [tSeq, tNext])
def PInt : Pr := ⟨fun _ v => ∃ i : Int, v = .int i, fun _ h => h⟩
/-- a purse: two or three ints -/
def Purse (p : Addr) (H : Hp) : Prop := ∃ xs : List Int, H p = some (.lst (xs.map .int)) ∧ (xs.length = 2 ∨ xs.length = 3)
def Own (p : Addr) : Ow := ⟨fun a => a = p, Purse p, fun ⟨xs, h, _⟩ m => ⟨.lst (xs.map .int), m ▸ h⟩, fun k ⟨xs, h, l⟩ => ⟨xs, k p _ rfl h, l⟩⟩
theorem Ex.purse {p : Addr} {G G' H H' : Hp} {xs : List V} (e : Ex (Own p) G G' H H') (l : ∃ ys : List Int, xs = ys.map .int ∧ (ys.length = 2 ∨ ys.length = 3)) : Ex (Own p) G G' H (upd H' p (.lst xs)) where
  keep := fun a u m h => by
    have : a ≠ p := m
    rw [upd_ne this]; exact e.keep a u m h
  gg := e.gg
  new := e.new
  fr := ⟨fun a u h => by
    have hn := e.fr.ap p rfl
    have : a ≠ p := fun z => by rw [z, hn] at h; cases h
    rw [upd_ne this]; exact e.fr.sub a u h, e.fr.ap, by
    obtain ⟨ys, rfl, l⟩ := l
    exact ⟨ys, upd_same, l⟩⟩
theorem pow7 {i : Int} (h0 : 0 ≤ i) (h : i < 2147483587) : 0 ≤ i ^ 7 := Int.pow_nonneg h0
section
variable {P : Program} {w : World} {K : PySem.W.Frag} {mg : Str → Option Value} {base : Heap}
def S_Lcell (K : PySem.W.Frag) : Ow → List Pr → Pr → Prop := fun o Φs Ψ => o = .no ∧ ∃ (xs : List Int) (k : Nat), xs.length ≤ 1000 ∧ Φs = [PD K (.list (xs.map .int)), PD K (.int k)] ∧ Ψ = PInt
theorem ok_Lcell (Z : Zs mg) (A : At K mg "_law_cell" s_Lcell) : Def P w K mg base 1 "_law_cell" ["_law_script", "_law_k"] (Fn (S_Lcell K)) := by
  refine def_of A sc_Lcell (fun _ _ _ _ _ _ us hl => match us, hl with | [_, _], _ => rfl) (fun vs H Q E h => Fn.len (fun o Φs Ψ ⟨_, _, k, _, h3, _⟩ => by rw [h3] <;> rfl) h) fun f cdv A outer s H vs Q E hr h => ?_
  obtain ⟨_, _, _, G, ⟨rfl, xs, k, hl, rfl, rfl⟩, fr, hv, q⟩ := h
  obtain ⟨x, y, rfl, hx, hy⟩ := allp2 hv
  refine ⟨_, (pss_one (ps_ret (pe_ifExp (pt_cmpR op_lt (pv 1) (pe_callB (crLen (K := K) rfl) (by rfl) Z.len bt_len (pa_cons (pv 0) pa_nil)) (nomark _)) (pe_ix (ixL (K := K) rfl) (pv 0) (pv 1) (fun _ _ => rfl)) pe_int))), ?_⟩
  refine st_ret fr (ev_if (b := decide ((k : Int) < xs.length)) (evt_test (K := K) (intB_ (var_ (by rfl) hy) (lenLD_ (ds := xs.map .int) (var_ (by rfl) hx) rfl) (by rw [List.length_map]))) (fun c => ?_) fun c => ?_) q
  · have c := of_decide_eq_true c
    have hk : k < xs.length := by omega
    have e : atI (xs.map PyData.int) (k : Int) = some (.int xs[k]) := by
      unfold atI ixN
      rw [List.length_map, if_pos (by omega), if_pos (by omega)]
      show (xs.map PyData.int)[(k : Int).toNat]? = _
      rw [Int.toNat_natCast, List.getElem?_map, List.getElem?_eq_getElem hk] <;> rfl
    exact (evd_ixL (K := K) (var_ (by rfl) hx) (var_ (by rfl) hy) e).imp fun _ _ _ p => ⟨_, dp_int p⟩
  · exact (evd_int (K := K) (i := 0)).imp fun _ _ _ p => ⟨_, dp_int p⟩
def S_Ltake (K : PySem.W.Frag) : Ow → List Pr → Pr → Prop := fun o Φs Ψ => ∃ (p : Addr) (m : Int), o = Own p ∧ 0 < m ∧ m.natAbs.log2 < 9000 ∧ Φs = [PV (.ref p), PD K (.int m)] ∧ Ψ = PE_ {i : Int // 0 ≤ i ∧ i < m} fun i => PD K (.int i.1)
section
variable {σ : L2.St} {D : Ends} {G H H1 : Hp} {p : Addr} {a b c : Int}
theorem run_ix {xs : List V} {x : V} {n : Nat} {i : Int} {Q : VK} (hv : σ[n]? = some (some (.ref p))) (hp : H p = some (.lst xs)) (he : atI xs i = some x) (q : Q x H) : tOp (rIxL K) (tVar n) (tC (V.int i)) σ H Q :=
  ⟨.ref p, hv, p, xs, i, x, rfl, rfl, .inl (.inl hp), he, q⟩
theorem run_eq {te : TE} {j : Int} {Q : Bool → Hp → Prop} (h : te σ H fun v H1 => ∃ i, v = .int i ∧ Q (decide (i = j)) H1) (mono : ∀ (R R' : VK), (∀ v H1, R v H1 → R' v H1) → te σ H R → te σ H R') : tTest (tOp rEq te (tC (V.int j))) σ H Q :=
  mono _ _ (fun v H1 ⟨i, e, q⟩ => by
    subst e
    exact ⟨rfl, _, rfl, by rw [dec_intV]; exact q⟩) h
theorem tk_grow (hv : σ[0]? = some (some (.ref p))) (fr : Fr (Own p) G H) (q : ∀ H1 a b c, Ex (Own p) G G H H1 → H1 p = some (.lst [.int a, .int b, .int c]) → D.nx σ H1) :
    tIfS (tTest (tOp rEq (tCB (rLenOf K) (tCons (tVar 0) tNil)) (tC (V.int 2)))) (tDrop (tBM K "list" rAppend (tVar 0) (tCons (tOp (rIxL K) (tVar 0) (tC (V.int 0))) tNil))) tNext D σ H := by
  obtain ⟨xs, hp, hl⟩ := fr.res
  rcases hl with hl | hl
  · match xs, hl, hp with
    | [a, b], _, hp =>
      refine ⟨.ref p, hv, p, [.int a, .int b], rfl, .inl (.inl (.inl hp)), rfl, true, rfl, iteT ?_⟩
      refine ⟨.ref p, hv, .inl ⟨rfl, _, .inl (.inl hp)⟩, .ref p, hv, p, _, 0, .int a, rfl, rfl, .inl (.inl hp), rfl, p, _, .int a, rfl, rfl, hp, (show 2 < sizeLine by decide), ?_⟩
      exact q _ a b a ((Ex.refl fr).purse ⟨[a, b, a], rfl, .inr rfl⟩) upd_same
  · match xs, hl, hp with
    | [a, b, c], _, hp =>
      refine ⟨.ref p, hv, p, [.int a, .int b, .int c], rfl, .inl (.inl (.inl hp)), rfl, false, rfl, iteF ?_⟩
      exact q _ a b c (Ex.refl fr) hp
theorem tk_end (hv : σ[0]? = some (some (.ref p))) (e : Ex (Own p) G G H H1) (hp : H1 p = some (.lst [.int a, .int b, .int c])) (q : ∀ H2 a b c, Ex (Own p) G G H H2 → H2 p = some (.lst [.int a, .int b, .int c]) → D.nx σ H2) :
    tIfS
        (tAnd (tTest (tOp rEq (tOp (rIxL K) (tVar 0) (tC (V.int 1))) (tC (V.int 0))))
          (tTest
            (tOp (rIn K false) (tOp (rIxL K) (tVar 0) (tC (V.int 0)))
              (tLst (tCons (tC (V.int 0)) (tCons (tUn (rU fun i => V.int (-i)) (tC (V.int 1))) tNil))))))
        (tSeq (tAsg (tOp (rIxL K) (tVar 0) (tC (V.int 2))) (gSub (tVar 0) (tC (V.int 0)) rSetL))
          (tAsg (tC (V.int 1)) (gSub (tVar 0) (tC (V.int 1)) rSetL)))
        tNext D σ H1 := by
  refine ⟨.ref p, hv, p, _, 1, .int b, rfl, rfl, .inl (.inl hp), rfl, rfl, _, rfl, ?_⟩
  by_cases hb : b = 0
  · subst hb
    refine iteT ⟨.ref p, hv, p, _, 0, .int a, rfl, rfl, .inl (.inl hp), rfl, 1, rfl, by decide, fun l hl => ?_⟩
    have e2 := Ex.aside (u := .lst [.int 0, .int (-1)]) e.fr hl
    have hp2 : (upd H1 l (.lst [.int 0, .int (-1)])) p = some (.lst [.int a, .int 0, .int c]) := by
      rw [upd_ne (ne_of_none hp hl)]; exact hp
    refine ⟨l, _, rfl, .inl (.inl (.inl upd_same)), rfl, rfl, _, rfl, ?_⟩
    cases (if (false : Bool) = true then !inV (V.int a) [V.int 0, V.int (-1)] else inV (V.int a) [V.int 0, V.int (-1)]) with
    | true =>
      refine iteT ?_
      refine ⟨.ref p, hv, p, _, 2, .int c, rfl, rfl, .inl (.inl hp2), rfl, .ref p, hv, p, _, 0, 0, rfl, rfl, hp2, rfl, ?_⟩
      refine ⟨.ref p, hv, p, [.int c, .int 0, .int c], 1, 1, rfl, rfl, upd_same, rfl, ?_⟩
      rw [upd_upd]
      exact q _ c 1 c ((e.trans e2).purse ⟨[c, 1, c], rfl, .inr rfl⟩) upd_same
    | false => exact iteF (q _ a 0 c (e.trans e2) hp2)
  · refine (show (if (decide (V.int b = V.int 0)) = true then _ else _) from ?_)
    rw [dec_intV, decide_eq_false hb]
    refine iteF (iteF (q _ a b c e hp))
end
theorem ok_Ltake (Z : Zs mg) (A : At K mg "_law_take" s_Ltake) : Def P w K mg base 1 "_law_take" ["_law_purse", "_law_many"] (Fn (S_Ltake K)) := by
  refine def_of A sc_Ltake (fun _ _ _ _ _ _ us hl => match us, hl with | [_, _], _ => rfl) (fun vs H Q E h => Fn.len (fun o Φs Ψ ⟨_, _, _, _, _, h3, _⟩ => by rw [h3] <;> rfl) h) fun f cdv A outer s H vs Q E hr h => ?_
  obtain ⟨_, _, _, G, ⟨p, m, rfl, hm0, hml, rfl, rfl⟩, fr, hv, q⟩ := h
  obtain ⟨x, y, rfl, hx, hy⟩ := allp2 hv
  have hx : x = .ref p := hx
  have hy : y = .int m := dp_int hy
  subst hx hy
  refine ⟨_, (pss_cons (ps_if (pt_cmpR op_eq (pe_callB (crLen (K := K) rfl) (by rfl) Z.len bt_len (pa_cons (pv 0) pa_nil)) pe_int (nomark _)) (pss_one (ps_expr (kBm (K := K) rfl PySem.F.plainAttrs_list PySem.F.slot_list_append PySem.F.type_list_append mt_append (pv 0) (pa_cons (pe_ix (ixL (K := K) rfl) (pv 0) pe_int (fun _ _ => rfl)) pa_nil)))) pss_nil)
    (pss_cons (ps_if (PW.pt (pw_and (pt_cmpR op_eq (pe_ix (ixL (K := K) rfl) (pv 0) pe_int (fun _ _ => rfl)) pe_int (nomark _)) (pw_and1 (pt_cmpR (kIn (K := K) rfl) (pe_ix (ixL (K := K) rfl) (pv 0) pe_int (fun _ _ => rfl)) (pe_lst (pa_cons pe_int (pa_cons (pe_un un_neg pe_int) pa_nil))) (by rfl))))) (pss_cons (ps_asg (pe_ix (ixL (K := K) rfl) (pv 0) pe_int (fun _ _ => rfl)) (pg_sub (pv 0) pe_int set_list))
      (pss_one (ps_asg pe_int (pg_sub (pv 0) pe_int set_list)))) pss_nil)
    (pss_cons (ps_set (i := 2) sc_Ltake.nd rfl (.inl rfl) (pe_ix (ixL (K := K) rfl) (pv 0) pe_int (fun _ _ => rfl)))
    (pss_cons (ps_if (pt_cmpR op_eq (pe_ix (ixL (K := K) rfl) (pv 0) pe_int (fun _ _ => rfl)) pe_int (nomark _)) (pss_cons (ps_asg (pe_op op_fdivW (pv 2) (pv 1)) (pg_sub (pv 0) pe_int set_list))
      (pss_one (ps_ret (pe_op op_mod (pv 2) (pv 1))))) pss_nil)
    (pss_cons (ps_asg (pe_op op_mod (pe_op op_add (pe_op op_mul (pe_op op_mod (pv 2) pe_int) pe_int) pe_int) pe_int) (pg_sub (pv 0) pe_int set_list))
    (pss_cons (ps_set (i := 3) sc_Ltake.nd rfl (.inl rfl) (pe_op op_mod (pe_op op_mul (pe_ix (ixL (K := K) rfl) (pv 0) pe_int (fun _ _ => rfl)) (pe_ix (ixL (K := K) rfl) (pv 0) pe_int (fun _ _ => rfl))) pe_int))
    (pss_one (ps_ret (pe_op op_mod (pe_op op_fdiv (pe_op op_pow (pv 3) pe_int) pe_int) (pv 1)))))))))), ?_⟩
  refine tk_grow (by rfl) fr fun H1 a b c e1 hp1 => ?_
  refine tk_end (by rfl) e1 hp1 fun H2 a b c e2 hp2 => ?_
  walk_at "nx"
  refine ⟨.ref p, rfl, p, _, 0, .int a, rfl, rfl, .inl (.inl hp2), rfl, ?_⟩
  refine ⟨.ref p, rfl, p, _, 1, .int b, rfl, rfl, .inl (.inl hp2), rfl, rfl, _, rfl, ?_⟩
  have fin : ∀ (i : Int) H3, Ex (Own p) G G H H3 → Q (.int (i % m)) H3 := fun i H3 e3 => q _ _ _ e3 ⟨⟨i % m, Int.emod_nonneg _ (by omega), Int.emod_lt_of_pos _ hm0⟩, Dp.int _⟩
  cases decide (V.int b = V.int 0) with
  | true =>
    refine iteT ⟨.int a, rfl, .int m, rfl, a, m, rfl, rfl, ⟨hm0, hml⟩, .ref p, rfl, p, _, 0, 0, rfl, rfl, hp2, rfl, ?_⟩
    have e3 := e2.purse (xs := [.int (a / m), .int b, .int c]) ⟨[a / m, b, c], rfl, .inr rfl⟩
    exact ⟨.int a, rfl, .int m, rfl, a, m, rfl, rfl, hm0, fin _ _ e3⟩
  | false =>
    refine iteF ?_
    have b1 : 0 ≤ a % 2147483647 ∧ a % 2147483647 < 2147483647 := ⟨Int.emod_nonneg _ (by decide), Int.emod_lt_of_pos _ (by decide)⟩
    refine ⟨.int a, rfl, a, 2147483647, rfl, rfl, (by decide : (0 : Int) < 2147483647), a % 2147483647, 48271, rfl, rfl, .inr ⟨by decide, by decide⟩, a % 2147483647 * 48271, 12345, rfl, rfl, a % 2147483647 * 48271 + 12345, 2147483629, rfl, rfl, (by decide : (0 : Int) < 2147483629), ?_⟩
    dsimp only
    generalize hz : (a % 2147483647 * 48271 + 12345) % 2147483629 = z
    have b2 : 0 ≤ z ∧ z < 2147483629 := hz ▸ ⟨Int.emod_nonneg _ (by decide), Int.emod_lt_of_pos _ (by decide)⟩
    refine ⟨.ref p, rfl, p, _, 0, 0, rfl, rfl, hp2, rfl, ?_⟩
    have e3 := e2.purse (xs := [.int z, .int b, .int c]) ⟨[z, b, c], rfl, .inr rfl⟩
    refine ⟨.ref p, rfl, p, _, 0, .int z, rfl, rfl, .inl (.inl upd_same), rfl, .ref p, rfl, p, _, 0, .int z, rfl, rfl, .inl (.inl upd_same), rfl, z, z, rfl, rfl, .inl ⟨by omega, by omega⟩, z * z, 2147483587, rfl, rfl, (by decide : (0 : Int) < 2147483587), ?_⟩
    dsimp only
    generalize hy : z * z % 2147483587 = y
    have b3 : 0 ≤ y ∧ y < 2147483587 := hy ▸ ⟨Int.emod_nonneg _ (by decide), Int.emod_lt_of_pos _ (by decide)⟩
    refine ⟨.int y, rfl, y, 7, rfl, rfl, ⟨by decide, by decide, by omega⟩, _, 5, rfl, rfl, ⟨by decide, by decide⟩, .int m, rfl, _, m, rfl, rfl, hm0, fin _ _ e3⟩
end
end Fm
set_option maxHeartbeats 4000000
/-! FmLH: purses of ours lent; results of which one of many comes. -/
namespace Fm
open PySem PySem.Spec PyProof.Rows L2
/-- a purse beside the frame -/
structure LP (G H : Hp) (p : Addr) : Prop where
  ex : ∃ ys : List Int, Loc .no G H p (ys.map .int) ∧ (ys.length = 2 ∨ ys.length = 3)
section
variable {K : PySem.W.Frag} {σ : L2.St} {G G0 G1 G2 H H0 H1 H2 : Hp} {p q : Addr} {o : Ow}
theorem LP.fr (l : LP G H p) (f : Fr .no G H) : Fr (Own p) G H := by
  obtain ⟨ys, l, h⟩ := l.ex
  exact ⟨f.sub, fun a m => by rw [show a = p from m]; exact l.out, ys, l.at_, h⟩
theorem LP.of (e : Ex (Own p) G G1 H H1) : LP G1 H1 p := by
  obtain ⟨ys, h, l⟩ := e.fr.res
  exact ⟨ys, ⟨h, e.fr.ap p rfl, fun z => z⟩, l⟩
theorem Ex.unown (e : Ex .no G0 G H0 H) (h0 : H0 p = none) (e2 : Ex (Own p) G G1 H H1) : Ex .no G0 G1 H0 H1 where
  keep := fun a u _ h => e2.keep a u (fun z => by
    rw [show a = p from z, h0] at h; cases h) (e.keep a u (fun z => z) h)
  gg := e.gg.trans e2.gg
  new := fun a u h => by rw [e2.new a u (e.keep a u (fun z => z) h), e.new a u h]
  fr := e2.fr.no
theorem LocU.past {u : HO} (l : LocU .no G H q u) (h : q ≠ p) (e2 : Ex (Own p) G G1 H H1) : LocU .no G1 H1 q u := ⟨e2.keep q _ h l.at_, by rw [e2.new q _ l.at_]; exact l.out, fun z => z⟩
theorem LP.past (l : LP G H q) (h : q ≠ p) (e2 : Ex (Own p) G G1 H H1) : LP G1 H1 q := by
  obtain ⟨ys, l, k⟩ := l.ex
  exact ⟨ys, LocU.past l h e2, k⟩
theorem LP.step (l : LP G H q) (e2 : Ex .no G G1 H H1) : LP G1 H1 q := by
  obtain ⟨ys, l, k⟩ := l.ex
  exact ⟨ys, Loc.ex l e2, k⟩
theorem LP.other {u : HO} (l : LP G H q) (h : q ≠ p) : LP G (upd H p u) q := by
  obtain ⟨ys, l, k⟩ := l.ex
  exact ⟨ys, Loc.other l h, k⟩
theorem LP.ne (l : LP G H q) (h : H p = none) : q ≠ p := fun z => by
  obtain ⟨ys, l, k⟩ := l.ex
  rw [← z, l.at_] at h; cases h
theorem LocU.ne {u : HO} (l : LocU o G H q u) (h : H p = none) : q ≠ p := fun z => by
  rw [← z, l.at_] at h; cases h
/-! ### one of many -/
theorem allp_E {ι β : Type} {Ψ : ι → Pr} : ∀ {bs : List β} {xs : List V}, AllP (bs.map fun _ => PE_ ι Ψ) G xs → ∃ l : List ι, l.length = bs.length ∧ AllP (l.map Ψ) G xs
  | [], [], _ => ⟨[], rfl, True.intro⟩
  | b :: bs, x :: xs, h => by
    obtain ⟨i, hi⟩ := h.1
    obtain ⟨l, e, hl⟩ := allp_E (bs := bs) h.2
    exact ⟨i :: l, by rw [List.length_cons, List.length_cons, e], hi, hl⟩
  | [], _ :: _, h => h.elim
  | _ :: _, [], h => h.elim
theorem for_rngE {ι : Type} {N : ι → Nat} {te : TE} {g : TG} {tb : TS} {D : Ends} (f : Fr o G H) (h : EvP o te σ G (PE_ ι fun i => PD K (.int (N i)))) (hn : ∀ i, N i < 2 ^ 62) (q : ∀ i G1 H1, Ex o G G1 H H1 → ∃ J : Nat → L2.St → Hp → Hp → Prop, J 0 σ G1 H1 ∧ (∀ k σ G H, J k σ G H → Same G1 G ∧ Same G H) ∧
    (∀ k x σ G H, k < N i → x = .int k → J k σ G H → g x σ H fun σ2 H2 => tb { D with nx := fun σ H => ∃ G, J (k + 1) σ G H, ct := fun σ H => ∃ G, J (k + 1) σ G H, bk := D.nx } σ2 H2) ∧ (∀ σ G H, J (N i) σ G H → D.nx σ H)) : tFor (iRng1 (tCons te tNil)) g tb D σ H :=
  h H f _ fun v H1 G1 e ⟨i, pv⟩ => by
    rw [show v = .int (N i) from dp_int pv]
    refine (for_ (wi := iRng1 (tCons (tC (.int (N i))) tNil)) (fs := intsP K 0 (N i)) e.fr (ito_range1 (eva_cons evd_int eva_nil) rfl (hn i)) fun G2 H2 e2 => ?_ : tFor (iRng1 (tCons (tC (.int (N i))) tNil)) g tb D σ H1)
    obtain ⟨J, j0, j1, j2, j3⟩ := q i G2 H2 (e.trans e2)
    refine ⟨J, j0, j1, fun k φ x σ G H hk hx hj => ?_, fun σ G H hj => j3 σ G H (by rw [intsP_len] at hj; exact hj)⟩
    have hkl : k < N i := by
      have := (List.getElem?_eq_some_iff.mp hk).1
      rwa [intsP_len] at this
    rw [intsP_at _ _ _ hkl] at hk
    cases hk
    have : x = .int (0 + k) := dp_int hx
    exact j2 k x σ G H hkl (by rw [this, Int.zero_add]) hj
theorem lc_rngE {ι : Type} {N : ι → Nat} {te tl : TE} {g : TG} {tt : TT} {vs : List Nat} {Φ : Pr} (h : EvP o te σ G (PE_ ι fun i => PD K (.int (N i)))) (hc : ∀ i, EvP o (tLc (iRng1 (tCons (tC (.int (N i))) tNil)) g tt tl vs) σ G Φ) : EvP o (tLc (iRng1 (tCons te tNil)) g tt tl vs) σ G Φ :=
  fun H f Q q => h H f _ fun v H1 G1 e ⟨i, pv⟩ => by
    rw [show v = .int (N i) from dp_int pv]
    exact ((hc i).up e.gg) H1 e.fr _ (exq q e)
/-! ### lists of what is tracked -/
theorem allp_drop : ∀ {Φs : List Pr} {vs : List V} (n : Nat), AllP Φs G vs → AllP (Φs.drop n) G (vs.drop n)
  | _, _, 0, h => h
  | [], [], _ + 1, h => h
  | _ :: _, _ :: _, n + 1, h => allp_drop n h.2
  | [], _ :: _, _, h => h.elim
  | _ :: _, [], _, h => h.elim
theorem allp_take : ∀ {Φs : List Pr} {vs : List V} (n : Nat), AllP Φs G vs → AllP (Φs.take n) G (vs.take n)
  | [], [], _, h => by simp only [List.take_nil]; exact True.intro
  | _ :: _, _ :: _, 0, h => True.intro
  | _ :: _, _ :: _, n + 1, h => ⟨h.1, allp_take n h.2⟩
  | [], _ :: _, _, h => h.elim
  | _ :: _, [], _, h => h.elim
theorem cut_allp {Φs : List Pr} {vs : List V} {lo hi : Option Int} (h : AllP Φs G vs) : AllP (cutD Φs lo hi) G (cutV vs lo hi) := by
  unfold cutV cutD
  rw [h.len]
  exact allp_take _ (allp_drop _ h)
theorem slP_ {te : TE} {tl th : TO} {lo hi : Option Int} {Φs : List Pr} (h : EvP o te σ G (PL K Φs)) (h1 : EvO o tl σ G lo) (h2 : EvO o th σ G hi) : EvP o (tSl (rSlL K) te tl th) σ G (PLn (cutD Φs lo hi)) := sl_run h h1 h2 fun G2 H2 x _ f pp Q q => by
  obtain ⟨a, xs, rfl, hx, hd⟩ := pp
  refine ⟨a, xs, rfl, Same.lst f.sub hx, fun y hy => ?_⟩
  have e := Ex.made (u := .lst (cutV xs lo hi)) f hy
  exact q _ _ _ e ⟨y, _, rfl, upd_same, (cut_allp hd).mono e.gg⟩
theorem catP_ {ta tb : TE} {Φs Ψs : List Pr} (h1 : EvP o ta σ G (PLn Φs)) (h2 : EvP o tb σ G (PLn Ψs)) (hl : Φs.length + Ψs.length ≤ 16777216) : EvP o (tOp rCat ta tb) σ G (PLn (Φs ++ Ψs)) := ev_op h1 h2 fun G2 H2 u v _ f ⟨a, xs, e1, a1, a2⟩ ⟨b, ys, e2, b1, b2⟩ Q k => by
  subst e1
  subst e2
  refine ⟨a, b, xs, ys, rfl, rfl, f.sub a _ a1, f.sub b _ b1, by rw [sizeLine_eq, a2.len, b2.len]; exact hl, fun p hp => ?_⟩
  have e := Ex.made (u := .lst (xs ++ ys)) f hp
  exact k _ _ _ e ⟨p, _, rfl, upd_same, (a2.app b2).mono e.gg⟩
/-- a comprehension's list is a new one -/
theorem lc_BF {β : Type} {bs : List β} {Θ : β → Pr} {B : β → Bool → Prop} {ψ : β → Pr} {wi : TI} {g : TG} {tt : TT} {te : TE} {vs : List Nat} (hi : ItOk o wi σ G (bs.map Θ)) (hn : bs.length ≤ 100000)
    (step : ∀ b ∈ bs, ∀ x G1 H1, Same G G1 → Fr o G1 H1 → (Θ b).p G1 x → ∀ R : L2.St → Hp → Prop, (∀ σ2, wipe σ2 vs = wipe σ vs → EvB o tt σ2 G1 (B b) → (B b true → EvP o te σ2 G1 (ψ b)) → R σ2 H1) → g x (wipe σ vs) H1 R)
    (f : Fr o G H) {Q : VK} (q : ∀ D cs acc H' G', Ex o G G' H H' → H D = none → G' D = some (.lst acc) → Picks B bs cs → AllP (cs.map ψ) G' acc → Q (.ref D) H') : tLc wi g tt te vs σ H Q := hi H f _ fun J H1 G1 xs e ax go st yl D hD => by
  have hl := ax.len
  rw [List.length_map] at hl
  have hm : ¬ o.M D := fun z => by
    obtain ⟨u, hu⟩ := o.al e.fr.res z
    rw [hD] at hu; cases hu
  refine ⟨fun i m H => i + m = xs.length ∧ ∃ G' acc cs, Ex o G1 G' H1 H ∧ H D = some (.lst acc) ∧ G' D = none ∧ Picks B (bs.take i) cs ∧ AllP (cs.map ψ) G' acc, ⟨xs.length, by omega, G1, [], [], Ex.aside e.fr hD, upd_same, ?_, ?_, True.intro⟩, fun i m H2 ⟨em, G2, acc, cs, e2, h1, h2, h3, h4⟩ => ?_⟩
  · cases z : G1 D with
    | none => rfl
    | some u => rw [e.fr.sub D u z] at hD; cases hD
  · simpa using Picks.nil
  have s2 : Same G1 H2 := e2.gg.trans e2.fr.sub
  by_cases h : i < xs.length
  · have hib : i < bs.length := by omega
    refine .inr ⟨go H2 i s2 h, fun H => ∃ G' acc cs, Ex o G1 G' H1 H ∧ H D = some (.lst acc) ∧ G' D = none ∧ Picks B (bs.take (i + 1)) cs ∧ AllP (cs.map ψ) G' acc, fun H' w => ⟨m - 1, by omega, by omega, w⟩, fun x H3 y => ?_⟩
    obtain ⟨rfl, ex⟩ := yl i H2 x H3 s2 y h
    obtain ⟨φ, a, b⟩ := ax.get ex
    rw [List.getElem?_map, List.getElem?_eq_getElem hib] at a
    cases a
    have tk : bs.take (i + 1) = bs.take i ++ [bs[i]] := by rw [List.take_succ, List.getElem?_eq_getElem hib] <;> rfl
    refine step bs[i] (List.getElem_mem hib) x G2 H3 (e.gg.trans e2.gg) e2.fr ((Θ _).mono e2.gg b) _ fun σ2 hw ht he => ⟨hw, ht H3 e2.fr _ fun c H4 G4 e4 hc => ?_⟩
    have k4 : H4 D = some (.lst acc) := e4.keep D _ hm h1
    have n4 : G4 D = none := by rw [e4.new D _ h1]; exact h2
    cases c with
    | false =>
      refine iteF ⟨G4, acc, cs, e2.trans e4, k4, n4, ?_, h4.mono e4.gg⟩
      rw [tk]
      exact .no hc h3
    | true =>
      refine iteT (((he hc).up e4.gg) H4 e4.fr _ fun y H5 G5 e5 p5 => ?_)
      have k5 : H5 D = some (.lst acc) := e5.keep D _ hm k4
      have n5 : G5 D = none := by rw [e5.new D _ k4]; exact n4
      have hal : acc.length < sizeLine := by
        rw [h4.len, List.length_map, sizeLine_eq]
        have := h3.sub.length_le
        rw [List.length_take] at this
        omega
      refine ⟨acc, k5, hal, G5, acc ++ [y], cs ++ [bs[i]], ((e2.trans e4).trans e5).wrote hD n5 hm, upd_same, n5, ?_, ?_⟩
      · rw [tk]
        exact .yes hc h3
      · rw [List.map_append]
        exact (h4.mono (e4.gg.trans e5.gg)).app ⟨p5, True.intro⟩
  · have hi' : i = bs.length := by omega
    refine .inl ⟨st H2 i s2 (by omega), q D cs acc H2 (upd G2 D (.lst acc)) (e.trans (e2.took hD h2 hm h1)) (e.none_back hm hD) upd_same ?_ (h4.mono (Same.new h2))⟩
    rw [hi', List.take_length] at h3
    exact h3
theorem atI_lt {α : Type} {l : List α} {i : Int} (h0 : 0 ≤ i) (h : i < l.length) : ∃ c ∈ l, atI l i = some c := by
  have hk : i.toNat < l.length := by omega
  refine ⟨l[i.toNat], List.getElem_mem hk, ?_⟩
  unfold atI ixN
  rw [if_pos h0, if_pos h]
  exact List.getElem?_eq_getElem hk
/-! len, of a list of ours -/
theorem run_len {xs : List V} {n : Nat} {Q : VK} (hv : σ[n]? = some (some (.ref p))) (hp : H p = some (.lst xs)) (q : Q (.int xs.length) H) : tCB (rLenOf K) (tCons (tVar n) tNil) σ H Q := ⟨.ref p, hv, p, xs, rfl, .inl (.inl (.inl hp)), q⟩
end
end Fm
set_option maxHeartbeats 4000000
/-! FmLB: the law's names and tuples. -/
namespace Fm
open PySem PySem.Spec PyProof.Rows L2
local macro_rules | `(tactic| walk_at "nx") => `(tactic| try dsimp only [tSeq, tNext])
def PTake (K : PySem.W.Frag) (m : Int) : Pr := PE_ {i : Int // 0 ≤ i ∧ i < m} fun i => PD K (.int i.1)
theorem take_ {K : PySem.W.Frag} {σ : L2.St} {G : Hp} {p : Addr} {n : Nat} {tm : TE} {E : XK} {m : Int} (hv : σ[n]? = some (some (.ref p))) (hm : EvD (Own p) K tm σ G (.int m)) (h0 : 0 < m) (h9 : m.natAbs.log2 < 9000) : EvP (Own p) (tCall (Fn (S_Ltake K)) [] E (tCons (tVar n) (tCons tm tNil))) σ G (PTake K m) :=
  ev_call (Φs := [PV (.ref p), PD K (.int m)]) (eva_cons (var_ hv rfl) (eva_cons hm eva_nil)) ⟨p, m, rfl, h0, h9, rfl, rfl⟩ (.inr rfl)
def signs25 : Str := "abcdefghijklmopqrstuvwxyz"
theorem signs25_let : ∀ c ∈ sg signs25, isLet c = true ∧ c ≠ 110 := by decide
theorem isName_of {x : Str} {n : Nat} (h1 : 1 ≤ n) (h8 : n ≤ 8) (hl : (sg x).length = n) (h : ∀ c ∈ sg x, isLet c = true ∧ c ≠ 110) : isName x = true := by
  unfold isName
  have e1 : x ≠ "" := fun e => by
    rw [e] at hl
    have : (sg ("" : Str)).length = 0 := rfl
    omega
  have e2 : x.length ≤ 8 := by rw [len_sg]; omega
  have e3 : x ∉ otherW := fun z => by
    have key : ∀ y ∈ otherW, 110 ∈ sg y := by decide
    exact (h 110 (key x z)).2 rfl
  have e4 : (sg x).all isLet = true := List.all_eq_true.mpr fun c hc => (h c hc).1
  rw [decide_eq_false e1, decide_eq_true e2, decide_eq_false e3, e4]
  rfl
section
variable {P : Program} {w : World} {K : PySem.W.Frag} {mg : Str → Option Value} {base : Heap}
def S_Lname (K : PySem.W.Frag) : Ow → List Pr → Pr → Prop := fun o Φs Ψ => ∃ (p : Addr), o = Own p ∧ Φs = [PV (.ref p)] ∧ Ψ = PE_ {x : Str // isName x = true} fun x => PD K (.str x.1)
theorem ok_Lname (Z : Zs mg) (D_Ltake : Def P w K mg base 1 "_law_take" ["_law_purse", "_law_many"] (Fn (S_Ltake K))) (A : At K mg "_law_name" s_Lname) : Def P w K mg base 2 "_law_name" ["_law_purse"] (Fn (S_Lname K)) := by
  refine def_of A sc_Lname (fun _ _ _ _ _ _ us hl => match us, hl with | [_], _ => rfl) (fun vs H Q E h => Fn.len (fun o Φs Ψ ⟨_, _, h3, _⟩ => by rw [h3] <;> rfl) h) fun f cdv A outer s H vs Q E hr h => ?_
  obtain ⟨_, _, _, G, ⟨p, rfl, rfl, rfl⟩, fr, hv, q⟩ := h
  obtain ⟨x, rfl, hx⟩ := allp1 hv
  have hx : x = .ref p := hx
  subst hx
  refine ⟨_, (pss_cons (ps_set (i := 1) sc_Lname.nd rfl (.inl rfl) pe_str)
    (pss_cons (ps_for PassesOwn.never rfl (pi_range1 (by rfl) Z.range (pa_cons (pe_op op_add pe_int (pe_def D_Ltake hr (by omega) (by rfl) (pa_cons (pv 0) (pa_cons pe_int pa_nil)))) pa_nil)) (pg_name (i := 2) sc_Lname.nd rfl (.inl rfl)) (pss_one (ps_set (i := 1) sc_Lname.nd rfl (.inl rfl) (pe_op op_add_str (pv 1) (pe_ix ix_str pe_str (pe_def D_Ltake hr (by omega) (by rfl) (pa_cons (pv 0) (pa_cons pe_int pa_nil))) (fun _ _ => rfl))))))
    (pss_one (ps_ret (pv 1))))), ?_⟩
  refine st_set (Φ := PD K (.str "")) fr evd_str fun v1 H1 G1 e1 p1 => ?_
  rw [dp_str p1]
  walk_at "nx"
  refine for_rngE (K := K) (ι := {i : Int // 0 ≤ i ∧ i < 8}) (N := fun i => (1 + i.1).toNat) e1.fr ?_ (fun i => ?_) fun i G2 H2 e2 => ?_
  · refine ev_op (Φ1 := PD K (.int 1)) evd_int (take_ (K := K) (m := 8) (p := p) (by rfl) evd_int (by decide) (by decide)) fun G2 H2 x y _ f p1 p2 Q k => ?_
    obtain ⟨j, p2⟩ := p2
    refine ⟨1, j.1, dp_int p1, dp_int p2, k _ _ _ (Ex.refl f) ⟨j, ?_⟩⟩
    show Dp K G2 (.int (1 + j.1)) (.int ((1 + j.1).toNat : Int))
    have := j.2.1
    rw [show (((1 + j.1).toNat : Nat) : Int) = 1 + j.1 by omega]
    exact Dp.int _
  · have := i.2.2
    have h : (1 + i.1).toNat ≤ 8 := by omega
    exact Nat.lt_of_le_of_lt h (by decide)
  · have hi0 := i.2.1
    have hi1 := i.2.2
    refine ⟨fun j σ G' H' => Ex (Own p) G2 G' H2 H' ∧ ∃ x : Str, (sg x).length = j ∧ (∀ c ∈ sg x, isLet c = true ∧ c ≠ 110) ∧ ∃ a : Option V, σ = [some (.ref p), some (.str x), a], ⟨Ex.refl e2.fr, "", rfl, (fun c hc => by cases hc), _, rfl⟩, fun i σ G H h => ⟨h.1.gg, h.1.fr.sub⟩, ?_, ?_⟩
    · rintro j _ σ G3 H3 hj rfl ⟨e3, x, hl, hc, a, rfl⟩
      refine st_set (Φ := PE_ {y : Str // (sg y).length = j + 1 ∧ ∀ c ∈ sg y, isLet c = true ∧ c ≠ 110} fun y => PD K (.str y.1)) e3.fr ?_ fun v4 H4 G4 e4 p4 => ?_
      · refine ev_op (Φ1 := PD K (.str x)) (Φ2 := PE_ {c : Nat // c ∈ sg signs25} fun c => PD K (.str ⟨#[c.1]⟩)) (var_ (by rfl) (Dp.str x)) ?_ fun G2 H2 u v _ f p1 p2 Q k => ?_
        · refine ev_op (Φ1 := PD K (.str signs25)) evd_str (take_ (K := K) (m := 25) (p := p) (by rfl) evd_int (by decide) (by decide)) fun G2 H2 u v _ f p1 p2 Q k => ?_
          obtain ⟨i, p2⟩ := p2
          obtain ⟨c, hc, hat⟩ := atI_lt (l := sg signs25) i.2.1 (by have := i.2.2; exact this)
          exact ⟨signs25, i.1, c, dp_str p1, dp_int p2, (by decide : signs25.length ≤ sizeLine), hat, k _ _ _ (Ex.refl f) ⟨⟨c, hc⟩, Dp.str _⟩⟩
        · obtain ⟨c, p2⟩ := p2
          refine ⟨x, ⟨#[c.1]⟩, dp_str p1, dp_str p2, ?_, k _ _ _ (Ex.refl f) ⟨⟨x ++ (⟨#[c.1]⟩ : Str), ?_, fun d hd => ?_⟩, Dp.str (x ++ (⟨#[c.1]⟩ : Str))⟩⟩
          · rw [sizeLine_eq, len_sg, len_sg, hl]
            show j + 1 ≤ _
            omega
          · rw [sg_app, List.length_append, hl]; rfl
          · rw [sg_app] at hd
            rcases List.mem_append.mp hd with hd | hd
            · exact hc d hd
            · rw [show d = c.1 from List.mem_singleton.mp hd]
              exact signs25_let c.1 c.2
      · obtain ⟨⟨y, hy1, hy2⟩, p4⟩ := p4
        rw [dp_str p4]
        exact ⟨G4, e3.trans e4, y, hy1, hy2, _, rfl⟩
    · rintro σ G3 H3 ⟨e3, x, hl, hc, a, rfl⟩
      exact st_ret (Φ := PE_ {x : Str // isName x = true} fun x => PD K (.str x.1)) e3.fr (var_ (by rfl) ⟨⟨x, isName_of (n := (1 + i.1).toNat) (by omega) (by omega) hl hc⟩, Dp.str _⟩) (exq q (e1.trans (e2.trans e3)))
end
end Fm
set_option maxHeartbeats 4000000
/-! FmLC: the law's tuples. -/
namespace Fm
open PySem PySem.Spec PyProof.Rows L2
local macro_rules | `(tactic| walk_at "nx") => `(tactic| try dsimp only [tSeq, tNext])
theorem st_purse {K : PySem.W.Frag} {σ : L2.St} {D : Ends} {G H : Hp} {ta : TE} {m n : Nat} {wy : Int} (f : Fr .no G H) (h : EvP .no ta σ G PInt) (hm : σ[m]? = some (some (.int wy))) (q : ∀ p H1 G1, Ex .no G G1 H H1 → H p = none → LP G1 H1 p → D.nx (σ.set n (some (.ref p))) H1) : tAsg (tLst (tCons ta (tCons (tVar m) tNil))) (gName n) D σ H :=
  h H f _ fun v H1 G1 e ⟨i, hi⟩ => ⟨.int wy, hm, (show 2 ≤ sizeLine by decide), fun p hp => q p _ G1 (e.trans (Ex.aside e.fr hp)) (e.none_back (fun z => z) hp) ⟨[i, wy], by rw [hi]; exact Loc.new e.fr hp, .inl rfl⟩⟩
def tupP (K : PySem.W.Frag) (t : Str × List Str) : Pr := PTu K [PD K (.str t.1), PN K (t.2.map .str)]
/-- what the loop holds -/
structure Bun (K : PySem.W.Frag) (G0 H0 G H : Hp) (hd fo nm : Addr) (W : Wb) (ns : List Str) (acc : List V) : Prop where
  ex : Ex .no G0 G H0 H
  hd : LP G H hd
  fo : Loc .no G H fo acc
  nm : Loc .no G H nm (ns.map .str)
  tr : AllP (W.map (tupP K)) G acc
section
variable {K : PySem.W.Frag} {G0 H0 G H G1 H1 : Hp} {hd fo nm p : Addr} {W : Wb} {ns : List Str} {acc : List V}
theorem Bun.step (b : Bun K G0 H0 G H hd fo nm W ns acc) (e : Ex .no G G1 H H1) : Bun K G0 H0 G1 H1 hd fo nm W ns acc := ⟨b.ex.trans e, b.hd.step e, Loc.ex b.fo e, Loc.ex b.nm e, b.tr.mono e.gg⟩
theorem Bun.past (b : Bun K G0 H0 G H hd fo nm W ns acc) (h0 : H0 p = none) (h1 : hd ≠ p) (h2 : fo ≠ p) (h3 : nm ≠ p) (e : Ex (Own p) G G1 H H1) : Bun K G0 H0 G1 H1 hd fo nm W ns acc := ⟨b.ex.unown h0 e, b.hd.past h1 e, LocU.past b.fo h2 e, LocU.past b.nm h3 e, b.tr.mono e.gg⟩
theorem Bun.head (b : Bun K G0 H0 G H hd fo nm W ns acc) (h0 : H0 hd = none) (h2 : fo ≠ hd) (h3 : nm ≠ hd) (e : Ex (Own hd) G G1 H H1) : Bun K G0 H0 G1 H1 hd fo nm W ns acc := ⟨b.ex.unown h0 e, LP.of e, LocU.past b.fo h2 e, LocU.past b.nm h3 e, b.tr.mono e.gg⟩
end
structure Bld (W : Wb) (k : Nat) : Prop where
  nd : (namesW W).Nodup
  nm : ∀ t ∈ W, isName t.1 = true
  ov : ∀ t ∈ W, ∀ y ∈ t.2, y ∈ namesW W
  few : W.length ≤ k
  fov : ∀ t ∈ W, t.2.length ≤ k
  rk : ∃ r : Str → Nat, (∀ t ∈ W, ∀ y ∈ t.2, r y < r t.1) ∧ ∀ y ∈ namesW W, r y < W.length
theorem namesW_app (W V : Wb) : namesW (W ++ V) = namesW W ++ namesW V := List.map_append
theorem Bld.mono {W : Wb} {k : Nat} (b : Bld W k) : Bld W (k + 1) := ⟨b.nd, b.nm, b.ov, Nat.le_succ_of_le b.few, fun t ht => Nat.le_succ_of_le (b.fov t ht), b.rk⟩
theorem Bld.snoc {W : Wb} {k : Nat} (b : Bld W k) {x : Str} {cs : List Str} (hx : isName x = true) (hn : x ∉ namesW W) (hc : cs.Sublist (namesW W)) : Bld (W ++ [(x, cs)]) (k + 1) where
  nd := by
    rw [namesW_app]
    exact List.nodup_append.mpr ⟨b.nd, by simp [namesW], fun a ha c hc e => hn (by rw [← show c = x from List.mem_singleton.mp hc, ← e]; exact ha)⟩
  nm := fun t ht => (List.mem_append.mp ht).elim (b.nm t) fun h => by rw [List.mem_singleton.mp h]; exact hx
  ov := fun t ht y hy => by
    rw [namesW_app]
    refine List.mem_append.mpr (.inl ?_)
    rcases List.mem_append.mp ht with h | h
    · exact b.ov t h y hy
    · rw [List.mem_singleton.mp h] at hy
      exact hc.subset hy
  few := by
    rw [List.length_append, List.length_singleton]
    exact Nat.succ_le_succ b.few
  fov := fun t ht => (List.mem_append.mp ht).elim (fun h => Nat.le_succ_of_le (b.fov t h)) fun h => by
    rw [List.mem_singleton.mp h]
    have := hc.length_le
    have h2 := b.few
    unfold namesW at this
    rw [List.length_map] at this
    show cs.length ≤ _
    omega
  rk := by
    obtain ⟨r, h1, h2⟩ := b.rk
    have ne : ∀ y ∈ namesW W, y ≠ x := fun y hy e => hn (e ▸ hy)
    refine ⟨fun z => if z = x then W.length else r z, fun t ht y hy => ?_, fun y hy => ?_⟩
    · rcases List.mem_append.mp ht with h | h
      · have a := b.ov t h y hy
        have c : t.1 ∈ namesW W := List.mem_map.mpr ⟨t, h, rfl⟩
        dsimp only
        rw [if_neg (ne y a), if_neg (ne _ c)]
        exact h1 t h y hy
      · rw [List.mem_singleton.mp h] at hy ⊢
        have a := hc.subset hy
        dsimp only
        rw [if_neg (ne y a), if_pos rfl]
        exact h2 y a
    · rw [List.length_append, List.length_singleton]
      rw [namesW_app] at hy
      rcases List.mem_append.mp hy with h | h
      · dsimp only
        rw [if_neg (ne y h)]
        have := h2 y h
        omega
      · dsimp only
        rw [if_pos (show y = x from List.mem_singleton.mp h)]
        omega
theorem Bld.turn {W : Wb} {k i : Nat} (b : Bld W k) (hk : k ≤ 20) : WebIn (W.drop i ++ W.take i) := by
  have pm : (W.drop i ++ W.take i).Perm W := (List.perm_append_comm).trans (by rw [List.take_append_drop])
  have hn : ∀ y, y ∈ namesW W → y ∈ namesW (W.drop i ++ W.take i) := fun y hy => (pm.map (fun (t : Str × List Str) => t.1)).mem_iff.mpr hy
  exact {
    nd := (pm.map (fun (t : Str × List Str) => t.1)).nodup_iff.mpr b.nd
    nm := fun t ht => b.nm t (pm.mem_iff.mp ht)
    ov := fun t ht y hy => hn y (b.ov t (pm.mem_iff.mp ht) y hy)
    few := by rw [pm.length_eq]; exact Nat.le_trans b.few hk
    fov := fun t ht => Nat.le_trans (b.fov t (pm.mem_iff.mp ht)) hk
    rk := by
      obtain ⟨r, h1, _⟩ := b.rk
      exact ⟨r, fun t ht => h1 t (pm.mem_iff.mp ht)⟩ }
section
variable {P : Program} {w : World} {K : PySem.W.Frag} {mg : Str → Option Value} {base : Heap}
def S_Ltuples (K : PySem.W.Frag) : Ow → List Pr → Pr → Prop := fun o Φs Ψ => o = .no ∧ ∃ (xs : List Int) (st : Nat) (wy : Int), xs.length ≤ 1000 ∧ st ≤ 1000 ∧ Φs = [PD K (.list (xs.map .int)), PD K (.int st), PD K (.int wy)] ∧ Ψ = PE_ {W : Wb // WebIn W} fun W => PLn (W.1.map (tupP K))
theorem ok_Ltuples (Z : Zs mg) (D_Ltake : Def P w K mg base 1 "_law_take" ["_law_purse", "_law_many"] (Fn (S_Ltake K))) (D_Lcell : Def P w K mg base 1 "_law_cell" ["_law_script", "_law_k"] (Fn (S_Lcell K))) (D_Lname : Def P w K mg base 2 "_law_name" ["_law_purse"] (Fn (S_Lname K)))
    (A : At K mg "_law_tuples" s_Ltuples) : Def P w K mg base 3 "_law_tuples" ["_law_script", "_law_start", "_law_way"] (Fn (S_Ltuples K)) := by
  refine def_of A sc_Ltuples (fun _ _ _ _ _ _ us hl => match us, hl with | [_, _, _], _ => rfl) (fun vs H Q E h => Fn.len (fun o Φs Ψ ⟨_, _, _, _, _, _, h3, _⟩ => by rw [h3] <;> rfl) h) fun f cdv A outer s H vs Q E hr h => ?_
  obtain ⟨_, _, _, G, ⟨rfl, xs, st, wy, hxl, hst, rfl, rfl⟩, fr, hv, q⟩ := h
  obtain ⟨x, us, rfl, hx, hv⟩ : ∃ x us, vs = x :: us ∧ (PD K (.list (xs.map .int))).p G x ∧ AllP [PD K (.int st), PD K (.int wy)] G us := by
    match vs, hv with
    | x :: us, h => exact ⟨x, us, rfl, h.1, h.2⟩
  obtain ⟨y, z, rfl, hy, hz⟩ := allp2 hv
  have hy : y = .int st := dp_int hy
  have hz : z = .int wy := dp_int hz
  subst hy hz
  refine ⟨_, (pss_cons (ps_set (i := 3) sc_Ltuples.nd rfl (.inl rfl) (pe_lst (pa_cons (pe_def D_Lcell hr (by omega) (by rfl) (pa_cons (pv 0) (pa_cons (pv 1) pa_nil))) (pa_cons (pv 2) pa_nil))))
    (pss_cons (ps_set (i := 4) sc_Ltuples.nd rfl (.inl rfl) (pe_lst pa_nil))
    (pss_cons (ps_set (i := 5) sc_Ltuples.nd rfl (.inl rfl) (pe_lst pa_nil))
    (pss_cons (ps_for PassesOwn.never rfl (pi_range1 (by rfl) Z.range (pa_cons (pe_def D_Ltake hr (by omega) (by rfl) (pa_cons (pv 3) (pa_cons pe_int pa_nil))) pa_nil)) (pg_name (i := 6) sc_Ltuples.nd rfl (.inl rfl)) (pss_cons (ps_set (i := 7) sc_Ltuples.nd rfl (.inr rfl) (pe_lst (pa_cons (pe_op op_add (pe_def D_Lcell hr (by omega) (by rfl) (pa_cons (pv 0) (pa_cons (pe_op op_add (pe_op op_add (pv 1) pe_int) (pv 6)) pa_nil))) (pv 6)) (pa_cons (pv 2) pa_nil))))
      (pss_cons (ps_set (i := 8) sc_Ltuples.nd rfl (.inl rfl) (pe_def D_Lname hr (by omega) (by rfl) (pa_cons (pv 7) pa_nil)))
      (pss_one (ps_if (pt_cmpR (kNotIn (K := K) rfl) (pv 8) (pv 5) (by rfl)) (pss_cons (ps_expr (kBm (K := K) rfl PySem.F.plainAttrs_list PySem.F.slot_list_append PySem.F.type_list_append mt_append (pv 4) (pa_cons (pe_tup (pa_cons (pv 8) (pa_cons (pe_lc (own := [("_law_other", 10)]) (g := gName 10) rfl sc_Ltuples.nd (kPiL (K := K) rfl (pv 5)) (blkOk_by (N := n_Ltuples) (sc := (defScope s_Ltuples)) (by decide +kernel)) (fun _ _ _ _ _ => (pg_name (i := 10) sc_Ltuples.nd rfl (.inl rfl))) (fun _ _ _ _ _ => (pts_one (pt_cmpR op_eq (pe_def D_Ltake hr (by omega) (by rfl) (pa_cons (pv 7) (pa_cons pe_int pa_nil))) pe_int (nomark _)))) (fun _ _ _ _ _ => (pv 10))) pa_nil))) pa_nil)))
        (pss_one (ps_expr (kBm (K := K) rfl PySem.F.plainAttrs_list PySem.F.slot_list_append PySem.F.type_list_append mt_append (pv 5) (pa_cons (pv 8) pa_nil))))) pss_nil)))))
    (pss_cons (ps_set (i := 9) sc_Ltuples.nd rfl (.inl rfl) (pe_def D_Ltake hr (by omega) (by rfl) (pa_cons (pv 3) (pa_cons (pe_op op_add pe_int (pe_callB (crLen (K := K) rfl) (by rfl) Z.len bt_len (pa_cons (pv 4) pa_nil))) pa_nil))))
    (pss_one (ps_ret (pe_op op_cat (pe_slice (kSlL (K := K) rfl) (pv 4) (po_some (pv 9)) po_none) (pe_slice (kSlL (K := K) rfl) (pv 4) po_none (po_some (pv 9))))))))))), ?_⟩
  refine st_purse (K := K) (wy := wy) fr (ev_call (Φs := [PD K (.list (xs.map .int)), PD K (.int st)]) (eva_cons (var_ (by rfl) hx) (eva_cons (var_ (by rfl) hy) eva_nil)) ⟨rfl, xs, st, hxl, rfl, rfl⟩ (.inl rfl)) (by rfl) fun hd H1 G1 e1 hd0 hp1 => ?_
  walk_at "nx"
  refine st_new e1.fr fun fo hfo e2 => ?_
  have hhf := hp1.ne hfo
  have fo0 : H fo = none := e1.none_back (fun z => z) hfo
  have hp2 := hp1.step e2
  have lf2 : Loc .no G1 (upd H1 fo (.lst [])) fo [] := Loc.new e1.fr hfo
  generalize upd H1 fo (.lst []) = H2 at e2 hp2 lf2 ⊢
  walk_at "nx"
  refine st_new e2.fr fun nm hnm e3 => ?_
  have hhn := hp2.ne hnm
  have hfn := lf2.ne hnm
  have e13 := (e1.trans e2).trans e3
  have nm0 : H nm = none := (e1.trans e2).none_back (fun z => z) hnm
  have b3 : Bun K G H G1 (upd H2 nm (.lst [])) hd fo nm [] [] [] := ⟨e13, hp2.step e3, lf2.ex e3, Loc.new e2.fr hnm, True.intro⟩
  generalize upd H2 nm (.lst []) = H3 at b3 e13 ⊢
  clear e3 e2 hnm hfo lf2 hp2 hp1
  walk_at "nx"
  refine for_rngE (K := K) (o := Own hd) (ι := {i : Int // 0 ≤ i ∧ i < 7}) (N := fun i => i.1.toNat) (b3.hd.fr b3.ex.fr) ((take_ (K := K) (m := 7) (p := hd) (by rfl) evd_int (by decide) (by decide)).imp fun G1 v _ ⟨i, hi⟩ => ⟨i, ?_⟩) (fun i => ?_) fun i G4 H4 e4 => ?_
  · have := i.2.1
    show Dp K G1 v (.int (i.1.toNat : Int))
    rw [show ((i.1.toNat : Nat) : Int) = i.1 by omega]
    exact hi
  · have := i.2.2
    exact Nat.lt_of_le_of_lt (show i.1.toNat ≤ 7 by omega) (by decide)
  have hi1 := i.2.2
  have b4 := b3.head hd0 (Ne.symm hhf) (Ne.symm hhn) e4
  refine ⟨fun k σ G' H' => Same G4 G' ∧ ∃ W acc, Bld W k ∧ Bun K G H G' H' hd fo nm W (namesW W) acc ∧ ∃ a b c d e : Option V, σ = [some x, some (.int st), some (.int wy), some (.ref hd), some (.ref fo), some (.ref nm), a, b, c, d, e],
    ⟨Same.refl _, [], [], ⟨List.nodup_nil, (fun _ h => by cases h), (fun _ h => by cases h), Nat.le_refl _, (fun _ h => by cases h), fun _ => 0, (fun _ h => by cases h), fun _ h => by cases h⟩, b4, _, _, _, _, _, rfl⟩, fun k σ G H h => ⟨h.1, by obtain ⟨_, _, _, _, b, _⟩ := h; exact b.ex.fr.sub⟩, ?_, ?_⟩
  · rintro k _ σ G5 H5 hk rfl ⟨s5, W, acc, bl, b5, a, b, c, d, e, rfl⟩
    have hx5 := dsame hx b5.ex.gg
    refine st_purse (K := K) (wy := wy) b5.ex.fr (ev_op (Φ1 := PInt) (Φ2 := PD K (.int k)) (ev_call (Φs := [PD K (.list (xs.map .int)), PD K (.int ((st + 1 + k : Nat) : Int))]) (eva_cons (var_ (by rfl) hx5) (eva_cons (intI_ (intI_ (var_ (by rfl) (Dp.int st)) evd_int rfl) (var_ (by rfl) (Dp.int k)) (by push_cast; rfl)) eva_nil)) ⟨rfl, xs, st + 1 + k, hxl, rfl, rfl⟩ (.inl rfl)) (var_ (by rfl) (Dp.int k)) fun G2 H2 u v _ f p1 p2 Q k => ?_) (by rfl) fun p H6 G6 e6 hp0 lp6 => ?_
    · obtain ⟨i, rfl⟩ := p1
      exact ⟨i, _, rfl, dp_int p2, k _ _ _ (Ex.refl f) ⟨_, rfl⟩⟩
    have b6 := b5.step e6
    have p1 := b5.hd.ne hp0
    have p2 := LocU.ne b5.fo hp0
    have p3 := LocU.ne b5.nm hp0
    have p0 : H p = none := b5.ex.none_back (fun z => z) hp0
    walk_at "nx"
    refine st_set (o := Own p) (Φ := PE_ {x : Str // isName x = true} fun x => PD K (.str x.1)) (lp6.fr b6.ex.fr) (ev_call (Φs := [PV (.ref p)]) (eva_cons (var_ (by rfl) rfl) eva_nil) ⟨p, rfl, rfl, rfl⟩ (.inr rfl)) fun v7 H7 G7 e7 p7 => ?_
    obtain ⟨⟨n, hn⟩, p7⟩ := p7
    rw [dp_str p7]
    have b7 := b6.past p0 p1 p2 p3 e7
    have lp7 := LP.of e7
    have s7 := (s5.trans e6.gg).trans e7.gg
    clear e7 e6 b6 lp6 p7
    walk_at "nx"
    refine st_ifR (B := fun c => c = !decide (n ∈ namesW W)) (EvB.seen (evt_test (K := K) (notInL_ (x := n) (xs := namesW W) (var_ (by rfl) (Dp.str n)) (var_ (by rfl) (Dp.lst (.inl (.inl upd_same)) (dpall_of_strs _))) rfl)) b7.nm b7.ex.fr) (fun hc H8 G8 e8 => ?_) fun hc H8 G8 e8 => ?_
    · have hno : n ∉ namesW W := by
        intro z
        rw [decide_eq_true z] at hc; cases hc
      have b8 := b7.step e8
      have lp8 := lp7.step e8
      have s8 := s7.trans e8.gg
      clear e8 b7 lp7
      walk_at "nx"
      refine ⟨.ref fo, by rfl, .inl ⟨rfl, acc, .inl (.inl b8.fo.at_)⟩, .str n, by rfl, ?_⟩
      have lnm : Loc (Own p) G8 H8 nm ((namesW W).map .str) := ⟨b8.nm.at_, b8.nm.out, p3⟩
      have fr8 := lnm.fr (lp8.fr b8.ex.fr)
      have hWl : W.length ≤ 7 := by have := bl.few; omega
      refine lc_BF (bs := namesW W) (Θ := fun y => PD K (.str y)) (ψ := fun y => PD K (.str y)) (B := fun _ _ => True) (ito_listF (K := K) (enc := .str) (var_ (by rfl) (Dp.lst (.inl (.inl upd_same)) (dpall_of_strs _)))) (by unfold namesW; rw [List.length_map]; omega) (fun y hy v G9 H9 s9 f9 hv9 R r => r _ (wipe_set (by decide) _ wipe_wipe) ?_ fun _ => var_ (by rfl) hv9) fr8 fun D cs acc2 H9 G9 e9 hD hD9 pk al => ?_
      · refine evb_test (ev_op (Φ1 := PTake K 3) (Φ2 := PD K (.int 0)) (take_ (K := K) (m := 3) (p := p) (by rfl) evd_int (by decide) (by decide)) evd_int fun G2 H2 u v _ f p1 p2 Q k => ?_)
        obtain ⟨i, p1⟩ := p1
        rw [dp_int p1, dp_int p2]
        exact ⟨rfl, k _ _ _ (Ex.refl f) ⟨_, rfl, True.intro⟩⟩
      refine ⟨(show 2 ≤ sizeLine by decide), fun t ht => ?_⟩
      obtain ⟨G10, e10, rfl, hn10⟩ := lnm.back (lp8.fr b8.ex.fr) e9
      have hDn : D ≠ nm := fun z => by
        rw [z, b8.nm.at_] at hD; cases hD
      rw [upd_ne hDn] at hD9
      have hacc2 : acc2 = cs.map V.str := by
        have al' : AllP ((cs.map PyData.str).map (PD K)) (upd G10 nm (.lst ((namesW W).map .str))) acc2 := by rw [List.map_map]; exact al
        exact dpall_strs (allp_da al')
      subst hacc2
      have e11 := e10.trans (Ex.made (u := .tup [.str n, .ref D]) e10.fr ht)
      have b11 := b8.past p0 p1 p2 p3 e11
      have s11 := s8.trans e11.gg
      have ptup : (tupP K (n, cs)).p (upd G10 t (.tup [.str n, .ref D])) (.ref t) := by
        refine ⟨t, [.str n, .ref D], rfl, .inl (.inl upd_same), Dp.str n, ⟨D, _, rfl, ?_, dpall_of_strs cs⟩, True.intro⟩
        have : D ≠ t := ne_of_none (e10.fr.sub D _ hD9) ht
        rw [upd_ne this]
        exact hD9
      have hsub : cs.Sublist (namesW W) := pk.sub
      generalize upd G10 t (.tup [.str n, .ref D]) = G11 at b11 s11 ptup
      generalize upd H9 t (.tup [.str n, .ref D]) = H11 at b11 ⊢
      have hal : acc.length < sizeLine := by
        have := b11.tr.len
        rw [List.length_map] at this
        rw [sizeLine_eq]; omega
      refine ⟨fo, acc, .ref t, rfl, rfl, b11.fo.at_, hal, ?_⟩
      have b12 : Bun K G H G11 (upd H11 fo (.lst (acc ++ [.ref t]))) hd fo nm (W ++ [(n, cs)]) (namesW W) (acc ++ [.ref t]) := ⟨b11.ex.wrote fo0 b11.fo.out b11.fo.own, b11.hd.other hhf, Loc.put b11.fo, Loc.other b11.nm (Ne.symm hfn), by
        rw [List.map_append]
        exact b11.tr.app ⟨ptup, True.intro⟩⟩
      generalize upd H11 fo (.lst (acc ++ [.ref t])) = H12 at b12 ⊢
      walk_at "nx"
      refine ⟨.ref nm, by rfl, .inl ⟨rfl, _, .inl (.inl b12.nm.at_)⟩, .str n, by rfl, nm, _, .str n, rfl, rfl, b12.nm.at_, ?_, ?_⟩
      · rw [List.length_map, sizeLine_eq]
        unfold namesW
        rw [List.length_map]
        omega
      · refine ⟨G11, s11, W ++ [(n, cs)], acc ++ [.ref t], bl.snoc hn hno hsub, ⟨b12.ex.wrote nm0 b12.nm.out b12.nm.own, b12.hd.other hhn, Loc.other b12.fo hfn, ?_, b12.tr⟩, _, _, _, _, _, rfl⟩
        rw [namesW_app, List.map_append]
        exact Loc.put b12.nm
    · walk_at "nx"
      exact ⟨G8, s7.trans e8.gg, W, acc, bl.mono, b7.step e8, _, _, _, _, _, rfl⟩
  · rintro σ G5 H5 ⟨s5, W, acc, bl, b5, a, b, c, d, e, rfl⟩
    walk_at "nx"
    have E5 := b5.ex.took fo0 b5.fo.out b5.fo.own b5.fo.at_
    have lh : LP (upd G5 fo (.lst acc)) H5 hd := by
      obtain ⟨ys, l, k⟩ := b5.hd.ex
      exact ⟨ys, ⟨l.at_, by rw [upd_ne hhf]; exact l.out, l.own⟩, k⟩
    have hpl : (PL K (W.map (tupP K))).p (upd G5 fo (.lst acc)) (.ref fo) := ⟨fo, acc, rfl, .inl (.inl upd_same), b5.tr.mono (Same.new b5.fo.out)⟩
    have hWl : W.length ≤ 7 := by have := bl.few; omega
    generalize upd G5 fo (.lst acc) = G6 at E5 lh hpl
    have hm : ((1 + W.length : Nat) : Int).natAbs.log2 < 9000 := by
      rw [Int.natAbs_natCast]
      exact Nat.lt_of_le_of_lt (Nat.log2_le_self _) (by omega)
    refine st_set (o := Own hd) (Φ := PTake K ((1 + W.length : Nat) : Int)) (lh.fr E5.fr) (take_ (K := K) (m := ((1 + W.length : Nat) : Int)) (p := hd) (by rfl) (intI_ evd_int (lenL_ (var_ (by rfl) hpl) rfl) (by rw [List.length_map]; push_cast; rfl)) (by omega) hm) fun v7 H7 G7 e7 p7 => ?_
    obtain ⟨⟨i, hi0, hi1⟩, p7⟩ := p7
    have p7 : v7 = .int i := dp_int p7
    subst p7
    have E7 := E5.unown hd0 e7
    have hpl7 := (PL K (W.map (tupP K))).mono e7.gg hpl
    obtain ⟨j, rfl⟩ : ∃ j : Nat, i = j := ⟨i.toNat, by omega⟩
    walk_at "nx"
    refine st_ret (Φ := PE_ {W : Wb // WebIn W} fun W => PLn (W.1.map (tupP K))) E7.fr ((catP_ (slP_ (var_ (by rfl) hpl7) (evo_some (K := K) (var_ (by rfl) (Dp.int (j : Int)))) evo_none) (slP_ (var_ (by rfl) hpl7) evo_none (evo_some (K := K) (var_ (by rfl) (Dp.int (j : Int)))))  ?_).imp fun G8 v8 _ p8 => ⟨⟨W.drop j ++ W.take j, bl.turn (by omega)⟩, ?_⟩) (exq q E7)
    · rw [cutD_drop, cutD_take, List.length_drop, List.length_take, List.length_map]
      omega
    · rw [cutD_drop, cutD_take] at p8
      show (PLn ((W.drop j ++ W.take j).map (tupP K))).p G8 v8
      rw [List.map_append, List.map_drop, List.map_take]
      exact p8
end
end Fm
set_option maxHeartbeats 4000000
/-! FmLD: the law's ups. -/
namespace Fm
open PySem PySem.Spec PyProof.Rows L2
local macro_rules | `(tactic| walk_at "nx") => `(tactic| try dsimp only [tSeq, tNext])
theorem tups_pairs {K : PySem.W.Frag} {G H : Hp} (s : Same G H) : ∀ {W : Wb} {xs : List V}, AllP (W.map (tupP K)) G xs → ∃ (ps : List Addr) (kvs : List (Key × V)), xs = ps.map V.ref ∧ Paired (fun p kv => SqT K H p [kV kv.1, kv.2]) ps kvs ∧ KW G kvs W
  | [], [], _ => ⟨[], [], rfl, .nil, True.intro⟩
  | t :: W, x :: xs, h => by
    obtain ⟨ps, kvs, rfl, h2, h3⟩ := tups_pairs s (W := W) h.2
    obtain ⟨a, ys, rfl, g1, g2⟩ := h.1
    obtain ⟨y, z, rfl, p1, p2⟩ := allp2 g2
    obtain ⟨b, zs, rfl, hb, hd⟩ := p2
    have hy : y = .str t.1 := dp_str p1
    subst hy
    have hz := dpall_strs hd
    subst hz
    exact ⟨a :: ps, (.inr t.1, .ref b) :: kvs, rfl, .cons (Same.tup s g1) h2, rfl, ⟨b, rfl, hb⟩, h3⟩
  | [], _ :: _, h => h.elim
  | _ :: _, [], h => h.elim
theorem merge_new {G : Hp} : ∀ {kvs2 kvs1 : List (Key × V)} {W1 W2 : Wb}, KW G kvs1 W1 → KW G kvs2 W2 → (namesW (W1 ++ W2)).Nodup → mergeK kvs1 kvs2 = kvs1 ++ kvs2
  | [], kvs1, _, [], _, _, _ => by rw [List.append_nil]; rfl
  | kv :: kvs2, kvs1, W1, t :: W2, h1, ⟨e, ⟨b, e2, hb⟩, r⟩, nd => by
    obtain ⟨k, v⟩ := kv
    dsimp only at e e2
    subst e e2
    have hn : t.1 ∉ namesW W1 := fun z => by
      rw [namesW_app] at nd
      obtain ⟨_, _, n3⟩ := List.nodup_append.mp nd
      exact n3 _ z t.1 List.mem_cons_self rfl
    show mergeK (putK kvs1 (.inr t.1) (.ref b)) kvs2 = _
    rw [putK_new (h1.no hn)]
    have h1' := KW.snoc (x := t.1) (ov := t.2) hb h1
    rw [merge_new h1' r (by rw [List.append_assoc]; exact nd), List.append_assoc]
    rfl
  | [], _, _, _ :: _, _, h, _ => h.elim
  | _ :: _, _, _, [], _, h, _ => h.elim
theorem dictP_ {o : Ow} {K : PySem.W.Frag} {σ : L2.St} {G : Hp} {ta : TE} {W : Wb} (h : EvP o ta σ G (PLn (W.map (tupP K)))) (nd : (namesW W).Nodup) : EvP o (tCB (fun xs H Q => ∃ (a : Addr) (ps : List Addr) (kvs : List (Key × V)), xs = [.ref a] ∧ SqL K H a (ps.map V.ref) ∧ Paired (fun p kv => SqT K H p [kV kv.1, kv.2]) ps kvs ∧
    ∀ p, H p = none → Q (.ref p) (upd H p (.dK (mergeK [] kvs)))) (tCons ta tNil)) σ G (PDic W) := ev_cb (eva_cons h eva_nil) fun G2 H2 xs _ f p Q k => by
  obtain ⟨v, rfl, a, ys, rfl, h1, h2⟩ := allp1 p
  obtain ⟨ps, kvs, rfl, h3, h4⟩ := tups_pairs f.sub h2
  have e : mergeK [] kvs = kvs := merge_new (kvs1 := []) (W1 := []) True.intro h4 nd
  refine ⟨a, ps, kvs, rfl, .inl (.inl (f.sub a _ h1)), h3, fun d hd => ?_⟩
  rw [e]
  have e2 := Ex.made (u := .dK kvs) f hd
  exact k _ _ _ e2 ⟨d, kvs, rfl, upd_same, h4.mono e2.gg⟩
theorem KW.name_iff {G : Hp} {kvs : List (Key × V)} {U : Wb} (h : KW G kvs U) {x : Str} (hx : x ∉ namesW U) : valV kvs (.inr x) = none := h.no hx
section
variable {P : Program} {w : World} {K : PySem.W.Frag} {mg : Str → Option Value} {base : Heap}
structure UpsOf (W U : Wb) : Prop where
  nm : namesW U = namesW W
  up : ∀ x ∈ namesW W, ∀ y, y ∈ overW U x ↔ Reach W x y
  few : ∀ x ∈ namesW W, (overW U x).length ≤ 20
def S_Lups (K : PySem.W.Frag) : Ow → List Pr → Pr → Prop := fun o Φs Ψ => o = .no ∧ ∃ W, WebIn W ∧ Φs = [PLn (W.map (tupP K))] ∧ Ψ = PE_ {U : Wb // UpsOf W U} fun U => PDic U.1
theorem ok_Lups (Z : Zs mg) (A : At K mg "_law_ups" s_Lups) : Def P w K mg base 1 "_law_ups" ["_law_tuples_here"] (Fn (S_Lups K)) := by
  refine def_of A sc_Lups (fun _ _ _ _ _ _ us hl => match us, hl with | [_], _ => rfl) (fun vs H Q E h => Fn.len (fun o Φs Ψ ⟨_, _, _, h3, _⟩ => by rw [h3] <;> rfl) h) fun f cdv A outer s H vs Q E hr h => ?_
  obtain ⟨_, _, _, G, ⟨rfl, W, hW, rfl, rfl⟩, fr, hv, q⟩ := h
  obtain ⟨x, rfl, hx⟩ := allp1 hv
  refine ⟨_, (pss_cons (ps_set (i := 1) sc_Lups.nd rfl (.inl rfl) (pe_callTy (call_dictP rfl) (by rfl) Z.dict bt_dict (pa_cons (pv 0) pa_nil)))
    (pss_cons (ps_set (i := 2) sc_Lups.nd rfl (.inl rfl) pe_dnewK)
    (pss_cons (ps_for PassesOwn.never rfl (kPiL (K := K) rfl (pv 0)) (kPgTup (K := K) (n := 2) rfl rfl (pgs_cons (pg_name (i := 3) sc_Lups.nd rfl (.inl rfl)) (pgs_cons (pg_name (i := 4) sc_Lups.nd rfl (.inl rfl)) pgs_nil))) (pss_cons (ps_set (i := 5) sc_Lups.nd rfl (.inl rfl) (pe_lst (pa_cons (pv 3) pa_nil)))
      (pss_cons (ps_set (i := 6) sc_Lups.nd rfl (.inl rfl) (pe_lst pa_nil))
      (pss_cons (ps_while PassesOwn.never (pt_cmpR (kNeD (K := K) rfl hr.units) (pv 5) (pe_lst pa_nil) (nomark _)) (pss_cons (ps_set (i := 7) sc_Lups.nd rfl (.inl rfl) (kBm0 (K := K) rfl PySem.F.plainAttrs_list PySem.F.slot_list_pop PySem.F.type_list_pop mt_pop (pv 5)))
        (pss_one (ps_if (pt_cmpR (kNotIn (K := K) rfl) (pv 7) (pv 6) (by rfl)) (pss_cons (ps_expr (kBm (K := K) rfl PySem.F.plainAttrs_list PySem.F.slot_list_append PySem.F.type_list_append mt_append (pv 6) (pa_cons (pv 7) pa_nil)))
          (pss_one (ps_expr (kBm (K := K) rfl PySem.F.plainAttrs_list PySem.F.slot_list_extend PySem.F.type_list_extend mt_extend (pv 5) (pa_cons (pe_dget (hu_of hr) (pv 1) (pv 7) (fun _ _ => rfl)) pa_nil))))) pss_nil))))
      (pss_one (ps_dput (hu_of hr) (pv 2) (pv 3) (pv 6) rfl))))))
    (pss_one (ps_ret (pv 2)))))), ?_⟩
  refine st_set (Φ := PDic W) fr (dictP_ (var_ (by rfl) hx) hW.nd) fun v1 H1 G1 e1 p1 => ?_
  walk_at "nx"
  intro fd hfd
  have fd0 : H fd = none := e1.none_back (fun z => z) hfd
  have eA : Ex .no G1 G1 H1 (upd H1 fd (.dK [])) := Ex.aside e1.fr hfd
  have ld2 : LocU .no G1 (upd H1 fd (.dK [])) fd (.dK []) := LocU.new e1.fr hfd
  have e2 := e1.trans eA
  generalize upd H1 fd (.dK []) = H2 at eA ld2 e2 ⊢
  clear eA hfd
  walk_at "nx"
  have hfew := hW.few
  refine for_ e2.fr (ito_list (K := K) (var_ (by rfl) (pln_l ((PLn (W.map (tupP K))).mono e2.gg hx)))) fun G3 H3 e3 => ?_
  refine ⟨fun i σ G' H' => Same G3 G' ∧ Ex .no G G' H H' ∧ ∃ kvs U, LocU .no G' H' fd (.dK kvs) ∧ KW G' kvs U ∧ namesW U = (namesW W).take i ∧ (∀ t ∈ U, ∀ y, y ∈ t.2 ↔ Reach W t.1 y) ∧ (∀ t ∈ U, t.2.length ≤ 20) ∧ ∃ a b c d e : Option V, σ = [some x, some v1, some (.ref fd), a, b, c, d, e],
    ⟨Same.refl _, e2.trans e3, [], [], ld2.ex e3, True.intro, by rw [List.take_zero]; rfl, (fun _ h => by cases h), (fun _ h => by cases h), _, _, _, _, _, rfl⟩, fun i σ G H h => ⟨h.1, h.2.1.fr.sub⟩, ?_, ?_⟩
  · rintro i φ y σ G5 H5 hi hy ⟨s5, e5, kvs, U, d5, k5, nU, rU, fU, a, b, c, d, e, rfl⟩
    rw [List.getElem?_map] at hi
    obtain ⟨t, ht, rfl⟩ := Option.map_eq_some_iff.mp hi
    have hm := List.mem_of_getElem? ht
    have hn : t.1 ∈ namesW W := List.mem_map.mpr ⟨t, hm, rfl⟩
    obtain ⟨ta, ys, rfl, g1, g2⟩ := hy
    obtain ⟨y1, y2, rfl, q1, q2⟩ := allp2 g2
    have hy1 : y1 = .str t.1 := dp_str q1
    subst hy1
    refine ⟨ta, [.str t.1, y2], rfl, Same.tup e5.fr.sub g1, rfl, .str t.1, [y2], rfl, y2, [], rfl, rfl, ?_⟩
    clear g1 g2 q1 q2
    refine ⟨.str t.1, by rfl, (show 1 ≤ sizeLine by decide), fun wt hwt => ?_⟩
    have hfw := d5.ne hwt
    have wt0 : H wt = none := e5.none_back (fun z => z) hwt
    have e6 := Ex.aside (u := .lst [.str t.1]) e5.fr hwt
    have lw6 : Loc .no G5 (upd H5 wt (.lst [.str t.1])) wt ([t.1].map .str) := Loc.new e5.fr hwt
    have d6 := d5.ex e6
    have e56 := e5.trans e6
    generalize upd H5 wt (.lst [.str t.1]) = H6 at lw6 d6 e56 ⊢
    clear e6 hwt
    walk_at "nx"
    refine st_new e56.fr fun sn hsn e7 => ?_
    have hfs := d6.ne hsn
    have hws := LocU.ne lw6 hsn
    have sn0 : H sn = none := e56.none_back (fun z => z) hsn
    have ls7 : Loc .no G5 (upd H6 sn (.lst [])) sn (([] : List Str).map .str) := Loc.new e56.fr hsn
    have lw7 := lw6.ex e7
    have d7 := d6.ex e7
    have e57 := e56.trans e7
    generalize upd H6 sn (.lst []) = H7 at ls7 lw7 d7 e57 ⊢
    clear e7 hsn
    walk_at "nx"
    refine ⟨fun m σ H' => ∃ (G' : Hp) (ss ps : List Str), Same G5 G' ∧ Ex .no G G' H H' ∧ LocU .no G' H' fd (.dK kvs) ∧ Loc .no G' H' wt (ps.map V.str) ∧ Loc .no G' H' sn (ss.map V.str) ∧ ss.Nodup ∧ (∀ y ∈ ss, Reach W t.1 y) ∧ (∀ y ∈ ps, Reach W t.1 y) ∧ (t.1 ∈ ss ∨ t.1 ∈ ps) ∧ (∀ y ∈ ss, ∀ u ∈ overW W y, u ∈ ss ∨ u ∈ ps) ∧ m + 21 * ss.length = 421 + ps.length ∧ m ≤ 422 ∧ ∃ a b c : Option V, σ = [some x, some v1, some (.ref fd), some (.str t.1), a, some (.ref wt), some (.ref sn), b],
      ⟨422, G5, [], [t.1], Same.refl _, e57, d7, lw7, ls7, List.nodup_nil, (fun _ h => by cases h), (fun y hy => by rw [List.mem_singleton.mp hy]; exact .refl), .inr (List.mem_singleton.mpr rfl), (fun _ h => by cases h), by simp, Nat.le_refl _, _, _, none, rfl⟩, ?_⟩
    rintro m σ H8 ⟨G8, ss, ps, s8, e8, d8, lw8, ls8, nd8, rs8, rp8, me8, cl8, hm8, hm8', a, b, c, rfl⟩
    have hssn : ∀ y ∈ ss, y ∈ namesW W := fun y hy => reach_in hW hn (rs8 y hy)
    have hssl : ss.length ≤ 20 := by
      have := pigeon _ _ nd8 hssn
      unfold namesW at this
      rw [List.length_map] at this
      omega
    refine EvB.seen (B := fun c => c = !ps.isEmpty) (evt_test (K := K) (neD_ (d := .list (ps.map .str)) (e := .list []) (var_ (by rfl) (Dp.lst (.inl (.inl upd_same)) (dpall_of_strs ps))) (evd_lst (ds := []) eva_nil (by decide)) ?_ (by rfl) ?_)) lw8 e8.fr _ fun b' H9 G9 e9 z => ?_
    · exact (nz_strs fun y hy => isName_ok (hW.name (reach_in hW hn (rp8 y hy)))).shaped (by decide)
    · rw [eqv_nil]
      cases ps <;> rfl
    rw [z]
    clear z b'
    have s9 := s8.trans e9.gg
    have d9 := d8.ex e9
    have lw9 := lw8.ex e9
    have ls9 := ls8.ex e9
    have E9 := e8.trans e9
    clear e9 e8 d8 lw8 ls8 s8
    rcases List.eq_nil_or_concat ps with hps | ⟨ps', h0, hps⟩
    · subst hps
      refine iteF ?_
      walk_at "nx"
      refine ⟨.ref sn, by rfl, .ref fd, by rfl, .str t.1, by rfl, fd, upd H9 fd (.dK (putK kvs (.inr t.1) (.ref sn))), rfl, DPut.k (k := .inr t.1) d9.at_ ?_, ?_⟩
      · have : kvs.length ≤ 20 := by
          rw [k5.len]
          have := congrArg List.length nU
          unfold namesW at this
          rw [List.length_map, List.length_take, List.length_map] at this
          omega
        rw [sizeLine_eq]; omega
      have hno : t.1 ∉ namesW U := by
        have nd := hW.nd
        rw [nU]
        intro z
        have hu2 : (namesW W)[i]? = some t.1 := by unfold namesW; rw [List.getElem?_map, ht] <;> rfl
        rw [← List.take_append_drop i (namesW W)] at nd
        obtain ⟨_, _, n3⟩ := List.nodup_append.mp nd
        refine n3 _ z t.1 ?_ rfl
        refine List.mem_of_getElem? (i := 0) ?_
        rw [List.getElem?_drop]
        exact hu2
      rw [putK_new (k5.no hno)]
      have E10 := E9.wrote (u := .dK (kvs ++ [(.inr t.1, .ref sn)])) fd0 d9.out d9.own
      have d10 : LocU .no G9 (upd H9 fd (.dK (kvs ++ [(.inr t.1, .ref sn)]))) fd (.dK (kvs ++ [(.inr t.1, .ref sn)])) := d9.put
      have ls10 : Loc .no G9 (upd H9 fd (.dK (kvs ++ [(.inr t.1, .ref sn)]))) sn (ss.map V.str) := ls9.other (Ne.symm hfs)
      generalize upd H9 fd (.dK (kvs ++ [(.inr t.1, .ref sn)])) = H10 at E10 d10 ls10 ⊢
      have E11 := E10.took sn0 ls10.out ls10.own ls10.at_
      have sT : Same G9 (upd G9 sn (.lst (ss.map V.str))) := Same.new ls10.out
      refine ⟨upd G9 sn (.lst (ss.map V.str)), (s5.trans s9).trans sT, E11, _, U ++ [(t.1, ss)], ⟨d10.at_, by rw [upd_ne hfs]; exact d10.out, d10.own⟩, KW.snoc upd_same (k5.mono (s9.trans sT)), ?_, ?_, ?_, _, _, _, _, _, rfl⟩
      · rw [namesW_app, nU, List.take_add_one, show (namesW W)[i]? = some t.1 by unfold namesW; rw [List.getElem?_map, ht] <;> rfl]
        rfl
      · intro u hu y
        rcases List.mem_append.mp hu with hu | hu
        · exact rU u hu y
        · rw [List.mem_singleton.mp hu]
          refine ⟨rs8 y, fun hy => ?_⟩
          induction hy with
          | refl => exact me8.elim id fun z => by cases z
          | step _ hz ih => exact (cl8 _ ih _ hz).elim id fun z => by cases z
      · intro u hu
        rcases List.mem_append.mp hu with hu | hu
        · exact fU u hu
        · rw [List.mem_singleton.mp hu]; exact hssl
    · rw [List.concat_eq_append] at hps
      subst hps
      have hne : (!(ps' ++ [h0]).isEmpty) = true := by cases ps' <;> rfl
      rw [if_pos hne]
      have hr0 : Reach W t.1 h0 := rp8 h0 (List.mem_append.mpr (.inr (List.mem_singleton.mpr rfl)))
      have hin := reach_in hW hn hr0
      rw [List.length_append, List.length_singleton] at hm8
      refine ⟨fun σ' H' => ∃ m' < m, ∃ (G' : Hp) (ss ps : List Str), Same G5 G' ∧ Ex .no G G' H H' ∧ LocU .no G' H' fd (.dK kvs) ∧ Loc .no G' H' wt (ps.map V.str) ∧ Loc .no G' H' sn (ss.map V.str) ∧ ss.Nodup ∧ (∀ y ∈ ss, Reach W t.1 y) ∧ (∀ y ∈ ps, Reach W t.1 y) ∧ (t.1 ∈ ss ∨ t.1 ∈ ps) ∧ (∀ y ∈ ss, ∀ u ∈ overW W y, u ∈ ss ∨ u ∈ ps) ∧ m' + 21 * ss.length = 421 + ps.length ∧ m' ≤ 422 ∧ ∃ a b c : Option V, σ' = [some x, some v1, some (.ref fd), some (.str t.1), a, some (.ref wt), some (.ref sn), b], fun σ' H' h => h, ?_⟩
      refine run_pop lw9 (xs := ps'.map V.str) (x := .str h0) (by rw [List.map_append] <;> rfl) (by rfl) ?_
      have d10 := d9.other (u' := .lst (ps'.map V.str)) hfw
      have ls10 : Loc .no G9 (upd H9 wt (.lst (ps'.map V.str))) sn (ss.map V.str) := ls9.other (Ne.symm hws)
      have lw10 : Loc .no G9 (upd H9 wt (.lst (ps'.map V.str))) wt (ps'.map V.str) := lw9.put
      have E10 := E9.wrote (u := .lst (ps'.map V.str)) wt0 lw9.out lw9.own
      generalize upd H9 wt (.lst (ps'.map V.str)) = H10 at d10 ls10 lw10 E10 ⊢
      clear E9 lw9 ls9 d9
      walk_at "nx"
      refine st_ifR (B := fun c => c = !decide (h0 ∈ ss)) (EvB.seen (evt_test (K := K) (notInL_ (x := h0) (xs := ss) (var_ (by rfl) (Dp.str h0)) (var_ (by rfl) (Dp.lst (.inl (.inl upd_same)) (dpall_of_strs _))) rfl)) ls10 E10.fr) (fun hc H11 G11 e11 => ?_) fun hc H11 G11 e11 => ?_
      · have hno : h0 ∉ ss := by
          intro z
          rw [decide_eq_true z] at hc; cases hc
        have d11 := d10.ex e11
        have ls11 := ls10.ex e11
        have lw11 := lw10.ex e11
        have E11 := E10.trans e11
        have s11 := s9.trans e11.gg
        clear E10 lw10 ls10 d10 e11
        have hss19 : ss.length + 1 ≤ 20 := by
          have nd2 : (h0 :: ss).Nodup := List.nodup_cons.mpr ⟨hno, nd8⟩
          have := pigeon _ _ nd2 (fun y hy => (List.mem_cons.mp hy).elim (fun e => e ▸ hin) (hssn y))
          unfold namesW at this
          rw [List.length_map, List.length_cons] at this
          omega
        walk_at "nx"
        refine ⟨.ref sn, by rfl, .inl ⟨rfl, _, .inl (.inl ls11.at_)⟩, .str h0, by rfl, sn, _, .str h0, rfl, rfl, ls11.at_, ?_, ?_⟩
        · rw [List.length_map, sizeLine_eq]; omega
        have d12 := d11.other (u' := .lst (ss.map V.str ++ [.str h0])) hfs
        have lw12 : Loc .no G11 (upd H11 sn (.lst (ss.map V.str ++ [.str h0]))) wt (ps'.map V.str) := lw11.other hws
        have ls12 : Loc .no G11 (upd H11 sn (.lst (ss.map V.str ++ [.str h0]))) sn (ss.map V.str ++ [.str h0]) := ls11.put
        have E12 := E11.wrote (u := .lst (ss.map V.str ++ [.str h0])) sn0 ls11.out ls11.own
        generalize upd H11 sn (.lst (ss.map V.str ++ [.str h0])) = H12 at d12 ls12 lw12 E12 ⊢
        clear E11 lw11 ls11 d11
        walk_at "nx"
        refine ⟨.ref wt, by rfl, .inl ⟨rfl, _, .inl (.inl lw12.at_)⟩, ?_⟩
        refine dget_ (K := K) (x := h0) (var_ (by rfl) ((PDic W).mono ((e3.gg.trans s5).trans s11) p1)) (var_ (by rfl) (Dp.str h0)) hin H12 E12.fr _ fun v13 H13 G13 e13 ⟨bb, zs, ev, hb, hd⟩ => ?_
        subst ev
        have hzs := dpall_strs hd
        subst hzs
        have hfo := hW.fov _ (over_mem hin)
        dsimp only at hfo
        have d13 := d12.ex e13
        have ls13 := ls12.ex e13
        have lw13 := lw12.ex e13
        have E13 := E12.trans e13
        refine ⟨wt, bb, _, _, rfl, rfl, lw13.at_, e13.fr.sub bb _ hb, ?_, ?_⟩
        · rw [List.length_map, List.length_map, sizeLine_eq]; omega
        refine ⟨421 + (ps'.length + (overW W h0).length) - 21 * (ss.length + 1), by omega, G13, ss ++ [h0], ps' ++ overW W h0, s11.trans e13.gg, E13.wrote wt0 lw13.out lw13.own, d13.other hfw, ?_, ?_, ?_, ?_, ?_, ?_, ?_, ?_, ?_, _, _, none, rfl⟩
        · rw [List.map_append]; exact lw13.put
        · rw [List.map_append]; exact ls13.other (Ne.symm hws)
        · exact List.nodup_append.mpr ⟨nd8, by simp, fun a ha b hb e => hno (by rw [← List.mem_singleton.mp hb, ← e]; exact ha)⟩
        · intro y hy
          rcases List.mem_append.mp hy with hy | hy
          · exact rs8 y hy
          · rw [List.mem_singleton.mp hy]; exact hr0
        · intro y hy
          rcases List.mem_append.mp hy with hy | hy
          · exact rp8 y (List.mem_append.mpr (.inl hy))
          · exact hr0.step hy
        · rcases me8 with z | z
          · exact .inl (List.mem_append.mpr (.inl z))
          · rcases List.mem_append.mp z with z | z
            · exact .inr (List.mem_append.mpr (.inl z))
            · exact .inl (List.mem_append.mpr (.inr z))
        · intro y hy u hu
          rcases List.mem_append.mp hy with hy | hy
          · rcases cl8 y hy u hu with z | z
            · exact .inl (List.mem_append.mpr (.inl z))
            · rcases List.mem_append.mp z with z | z
              · exact .inr (List.mem_append.mpr (.inl z))
              · exact .inl (List.mem_append.mpr (.inr z))
          · rw [List.mem_singleton.mp hy] at hu
            exact .inr (List.mem_append.mpr (.inr hu))
        · rw [List.length_append, List.length_append, List.length_singleton]; omega
        · omega
      · have hyes : h0 ∈ ss := by
          refine Decidable.byContradiction fun z => ?_
          rw [decide_eq_false z] at hc; cases hc
        walk_at "nx"
        refine ⟨m - 1, by omega, G11, ss, ps', s9.trans e11.gg, E10.trans e11, d10.ex e11, lw10.ex e11, ls10.ex e11, nd8, rs8, fun y hy => rp8 y (List.mem_append.mpr (.inl hy)), ?_, ?_, by omega, by omega, _, _, none, rfl⟩
        · rcases me8 with z | z
          · exact .inl z
          · rcases List.mem_append.mp z with z | z
            · exact .inr z
            · rw [List.mem_singleton.mp z]; exact .inl hyes
        · intro y hy u hu
          rcases cl8 y hy u hu with z | z
          · exact .inl z
          · rcases List.mem_append.mp z with z | z
            · exact .inr z
            · rw [List.mem_singleton.mp z]; exact .inl hyes
  · rintro σ G5 H5 ⟨s5, e5, kvs, U, d5, k5, nU, rU, fU, a, b, c, d, e, rfl⟩
    rw [List.length_map, show W.length = (namesW W).length by unfold namesW; rw [List.length_map], List.take_length] at nU
    have E6 := e5.took fd0 d5.out d5.own d5.at_
    have hU : UpsOf W U := ⟨nU, fun x hx => rU _ (over_mem (nU ▸ hx)), fun x hx => fU _ (over_mem (nU ▸ hx))⟩
    walk_at "nx"
    exact st_ret (Φ := PE_ {U : Wb // UpsOf W U} fun U => PDic U.1) E6.fr (var_ (by rfl) ⟨⟨U, hU⟩, fd, kvs, rfl, upd_same, k5.mono (Same.new d5.out)⟩) (exq q E6)
end
end Fm
set_option maxHeartbeats 4000000
/-! FmLE: the law's numbers, spans, parts. -/
namespace Fm
open PySem PySem.Spec PyProof.Rows L2
local macro_rules | `(tactic| walk_at "nx") => `(tactic| try dsimp only [tSeq, tNext])
theorem intC_ {o : Ow} {K : PySem.W.Frag} {σ : L2.St} {G : Hp} {ta tb : TE} {i j : Int} {r : PyData} {C : Int → Int → Prop} {g : Int → Int → Int} (h1 : EvD o K ta σ G (.int i)) (h2 : EvD o K tb σ G (.int j)) (hc : C i j) (q : PyData.int (g i j) = r) : EvD o K (tOp (rI C fun i j => .int (g i j)) ta tb) σ G r := q ▸ ev_I h1 h2 hc fun _ => Dp.int _
theorem take_eq {K : PySem.W.Frag} {σ : L2.St} {G : Hp} {p : Addr} {n : Nat} {tm : TE} {E : XK} {m j : Int} (hv : σ[n]? = some (some (.ref p))) (hm : EvD (Own p) K tm σ G (.int m)) (h0 : 0 < m) (h9 : m.natAbs.log2 < 9000) : EvB (Own p) (tTest (tOp rEq (tCall (Fn (S_Ltake K)) [] E (tCons (tVar n) (tCons tm tNil))) (tC (V.int j)))) σ G (fun _ => True) :=
  evb_test (ev_op (Φ1 := PTake K m) (Φ2 := PD K (.int j)) (take_ hv hm h0 h9) evd_int fun G2 H2 u v _ f p1 p2 Q k => by
    obtain ⟨i, p1⟩ := p1
    rw [dp_int p1, dp_int p2]
    exact ⟨rfl, k _ _ _ (Ex.refl f) ⟨_, rfl, True.intro⟩⟩)
theorem int_cmp (a b : Int) : Cmp2 (.int a) (.int b) := by
  refine ⟨⟨fun x hx y hy => ?_, fun x hx => ?_⟩, ?_⟩
  · simp only [List.mem_cons, List.not_mem_nil, or_false] at hx hy
    rcases hx with rfl | rfl <;> rcases hy with rfl | rfl <;> rfl
  · simp only [List.mem_cons, List.not_mem_nil, or_false] at hx
    rcases hx with rfl | rfl <;> exact fun e => nomatch e
  · simp [PyData.depthAll, PyData.depth]
theorem minI_ {o : Ow} {K : PySem.W.Frag} {σ : L2.St} {G : Hp} {ta tb : TE} {a b : Int} (h1 : EvD o K ta σ G (.int a)) (h2 : EvD o K tb σ G (.int b)) : EvD o K (tCB (rMinD K) (tCons ta (tCons tb tNil))) σ G (.int (if b < a then b else a)) := minD_ h1 h2 (int_cmp a b) (by
  rw [PySem.W.dataLt_int]
  by_cases h : b < a <;> simp [h])
theorem maxI_ {o : Ow} {K : PySem.W.Frag} {σ : L2.St} {G : Hp} {ta tb : TE} {a b : Int} (h1 : EvD o K ta σ G (.int a)) (h2 : EvD o K tb σ G (.int b)) : EvD o K (tCB (rMaxD K) (tCons ta (tCons tb tNil))) σ G (.int (if a < b then b else a)) := maxD_ h1 h2 (int_cmp a b) (by
  rw [PySem.W.dataLt_int]
  by_cases h : a < b <;> simp [h])
theorem bigm : (2 * 10 ^ 60 - 1 : Int).natAbs.log2 < 9000 := by decide +kernel
section
variable {P : Program} {w : World} {K : PySem.W.Frag} {mg : Str → Option Value} {base : Heap}
def PNum (K : PySem.W.Frag) : Pr := PE_ {i : Int // i.natAbs < 10 ^ 60} fun i => PD K (.int i.1)
def S_Lnumber (K : PySem.W.Frag) : Ow → List Pr → Pr → Prop := fun o Φs Ψ => ∃ (p : Addr), o = Own p ∧ Φs = [PV (.ref p)] ∧ Ψ = PNum K
theorem ok_Lnumber (Z : Zs mg) (D_Ltake : Def P w K mg base 1 "_law_take" ["_law_purse", "_law_many"] (Fn (S_Ltake K))) (A : At K mg "_law_number" s_Lnumber) : Def P w K mg base 2 "_law_number" ["_law_purse"] (Fn (S_Lnumber K)) := by
  refine def_of A sc_Lnumber (fun _ _ _ _ _ _ us hl => match us, hl with | [_], _ => rfl) (fun vs H Q E h => Fn.len (fun o Φs Ψ ⟨_, _, h3, _⟩ => by rw [h3] <;> rfl) h) fun f cdv A outer s H vs Q E hr h => ?_
  obtain ⟨_, _, _, G, ⟨p, rfl, rfl, rfl⟩, fr, hv, q⟩ := h
  obtain ⟨x, rfl, hx⟩ := allp1 hv
  have hx : x = .ref p := hx
  subst hx
  refine ⟨_, (pss_cons (ps_if (pt_cmpR op_eq (pe_def D_Ltake hr (by omega) (by rfl) (pa_cons (pv 0) (pa_cons pe_int pa_nil))) pe_int (nomark _)) (pss_one (ps_ret (pe_op op_add (pe_op op_sub (pe_def D_Ltake hr (by omega) (by rfl) (pa_cons (pv 0) (pa_cons (pe_op op_sub (pe_op op_mul pe_int (pe_op op_pow pe_int pe_int)) pe_int) pa_nil))) (pe_op op_pow pe_int pe_int)) pe_int))) pss_nil)
    (pss_one (ps_ret (pe_op op_sub (pe_def D_Ltake hr (by omega) (by rfl) (pa_cons (pv 0) (pa_cons pe_int pa_nil))) pe_int)))), ?_⟩
  refine st_ifB fr (take_eq (K := K) (m := 4) (p := p) (by rfl) evd_int (by decide) (by decide)) (fun _ H1 G1 e1 => ?_) fun _ H1 G1 e1 => ?_
  · refine st_ret (Φ := PNum K) e1.fr (ev_op (Φ1 := PE_ {i : Int // 0 ≤ i ∧ i < 2 * 10 ^ 60 - 1} fun i => PD K (.int (i.1 - 10 ^ 60))) (Φ2 := PD K (.int 1)) (ev_op (Φ1 := PTake K (2 * 10 ^ 60 - 1)) (Φ2 := PD K (.int (10 ^ 60))) (take_ (K := K) (m := 2 * 10 ^ 60 - 1) (p := p) (by rfl) (intI_ (intC_ (g := fun i j => i * j) (i := 2) (j := 10 ^ 60) evd_int (intC_ (g := fun i j => i ^ j.toNat) (i := 10) (j := 60) evd_int evd_int ⟨by decide, by decide, by decide⟩ rfl) (.inl ⟨by decide, by decide⟩) rfl) evd_int rfl) (by decide) bigm) (intC_ (g := fun i j => i ^ j.toNat) (i := 10) (j := 60) evd_int evd_int ⟨by decide, by decide, by decide⟩ rfl) fun G2 H2 u v _ f p1 p2 Q k => ?_) evd_int fun G2 H2 u v _ f p1 p2 Q k => ?_) (exq q e1)
    · obtain ⟨i, p1⟩ := p1
      exact ⟨i.1, 10 ^ 60, dp_int p1, dp_int p2, k _ _ _ (Ex.refl f) ⟨i, Dp.int _⟩⟩
    · obtain ⟨i, p1⟩ := p1
      refine ⟨_, _, dp_int p1, dp_int p2, k _ _ _ (Ex.refl f) ⟨⟨i.1 - 10 ^ 60 + 1, ?_⟩, Dp.int _⟩⟩
      have h0 := i.2.1
      have h1 := i.2.2
      omega
  · walk_at "nx"
    refine st_ret (Φ := PNum K) e1.fr (ev_op (Φ1 := PTake K 25) (Φ2 := PD K (.int 12)) (take_ (K := K) (m := 25) (p := p) (by rfl) evd_int (by decide) (by decide)) evd_int fun G2 H2 u v _ f p1 p2 Q k => ?_) (exq q e1)
    obtain ⟨i, p1⟩ := p1
    refine ⟨i.1, 12, dp_int p1, dp_int p2, k _ _ _ (Ex.refl f) ⟨⟨i.1 - 12, ?_⟩, Dp.int _⟩⟩
    have h0 := i.2.1
    have h1 := i.2.2
    omega
def S_Lspan (K : PySem.W.Frag) : Ow → List Pr → Pr → Prop := fun o Φs Ψ => ∃ (p : Addr), o = Own p ∧ Φs = [PV (.ref p)] ∧ Ψ = PE_ {s : Span // SpanOk s} fun s => PD K (.tuple [.str "span", endD s.1.1, endD s.1.2])
theorem ok_Lspan (Z : Zs mg) (D_Ltake : Def P w K mg base 1 "_law_take" ["_law_purse", "_law_many"] (Fn (S_Ltake K))) (D_Lnumber : Def P w K mg base 2 "_law_number" ["_law_purse"] (Fn (S_Lnumber K))) (A : At K mg "_law_span" s_Lspan) : Def P w K mg base 3 "_law_span" ["_law_purse"] (Fn (S_Lspan K)) := by
  refine def_of A sc_Lspan (fun _ _ _ _ _ _ us hl => match us, hl with | [_], _ => rfl) (fun vs H Q E h => Fn.len (fun o Φs Ψ ⟨_, _, h3, _⟩ => by rw [h3] <;> rfl) h) fun f cdv A outer s H vs Q E hr h => ?_
  obtain ⟨_, _, _, G, ⟨p, rfl, rfl, rfl⟩, fr, hv, q⟩ := h
  obtain ⟨x, rfl, hx⟩ := allp1 hv
  have hx : x = .ref p := hx
  subst hx
  refine ⟨_, (pss_cons (ps_set (i := 1) sc_Lspan.nd rfl (.inl rfl) (pe_def D_Ltake hr (by omega) (by rfl) (pa_cons (pv 0) (pa_cons pe_int pa_nil))))
    (pss_cons (ps_set (i := 2) sc_Lspan.nd rfl (.inl rfl) (pe_def D_Lnumber hr (by omega) (by rfl) (pa_cons (pv 0) pa_nil)))
    (pss_cons (ps_set (i := 3) sc_Lspan.nd rfl (.inl rfl) (pe_def D_Lnumber hr (by omega) (by rfl) (pa_cons (pv 0) pa_nil)))
    (pss_cons (ps_if (pt_cmpR op_eq (pv 1) pe_int (nomark _)) (pss_one (ps_ret (pe_tup (pa_cons pe_str (pa_cons (pe_tup (pa_cons (pv 2) pa_nil)) (pa_cons (pe_tup (pa_cons (pv 2) pa_nil)) pa_nil)))))) pss_nil)
    (pss_cons (ps_if (pt_cmpR op_eq (pv 1) pe_int (nomark _)) (pss_one (ps_ret (pe_tup (pa_cons pe_str (pa_cons (pe_tup pa_nil) (pa_cons (pe_tup (pa_cons (pv 3) pa_nil)) pa_nil)))))) pss_nil)
    (pss_cons (ps_if (pt_cmpR op_eq (pv 1) pe_int (nomark _)) (pss_one (ps_ret (pe_tup (pa_cons pe_str (pa_cons (pe_tup (pa_cons (pv 2) pa_nil)) (pa_cons (pe_tup pa_nil) pa_nil)))))) pss_nil)
    (pss_cons (ps_if (PW.pt (pw_and (pt_cmpR op_eq (pv 1) pe_int (nomark _)) (pw_and1 (pt_cmpR op_eq (pe_op op_modN (pv 3) pe_int) pe_int (nomark _))))) (pss_one (ps_ret (pe_tup (pa_cons pe_str (pa_cons (pe_tup pa_nil) (pa_cons (pe_tup pa_nil) pa_nil)))))) pss_nil)
    (pss_one (ps_ret (pe_tup (pa_cons pe_str (pa_cons (pe_tup (pa_cons (pe_callB (kMinD (K := K) rfl rfl hr.units) (by rfl) Z.min bt_min (pa_cons (pv 2) (pa_cons (pv 3) pa_nil))) pa_nil)) (pa_cons (pe_tup (pa_cons (pe_callB (kMaxD (K := K) rfl rfl hr.units) (by rfl) Z.max bt_max (pa_cons (pv 2) (pa_cons (pv 3) pa_nil))) pa_nil)) pa_nil))))))))))))), ?_⟩
  refine st_set (Φ := PTake K 7) fr (take_ (K := K) (m := 7) (p := p) (by rfl) evd_int (by decide) (by decide)) fun v1 H1 G1 e1 p1 => ?_
  obtain ⟨wy, p1⟩ := p1
  have hv1 := dp_int p1
  subst hv1
  walk_at "nx"
  refine st_set (Φ := PNum K) e1.fr (ev_call (Φs := [PV (.ref p)]) (eva_cons (var_ (by rfl) rfl) eva_nil) ⟨p, rfl, rfl, rfl⟩ (.inr rfl)) fun v2 H2 G2 e2 p2 => ?_
  obtain ⟨⟨lo, hlo⟩, p2⟩ := p2
  have hv2 := dp_int p2
  subst hv2
  walk_at "nx"
  refine st_set (Φ := PNum K) e2.fr (ev_call (Φs := [PV (.ref p)]) (eva_cons (var_ (by rfl) rfl) eva_nil) ⟨p, rfl, rfl, rfl⟩ (.inr rfl)) fun v3 H3 G3 e3 p3 => ?_
  obtain ⟨⟨hi, hhi⟩, p3⟩ := p3
  have hv3 := dp_int p3
  subst hv3
  have e13 := (e1.trans e2).trans e3
  have one : ∀ {n : Int}, n.natAbs < 10 ^ 60 → EndOk (some n) := fun h => ⟨fun m e => by cases e; exact h⟩
  have non : EndOk none := ⟨fun m e => by cases e⟩
  walk_at "nx"
  have vlo : ∀ G, EvD (Own p) K (tVar 2) [some (.ref p), some (.int wy.1), some (.int lo), some (.int hi)] G (.int lo) := fun G => var_ (by rfl) (Dp.int lo)
  have vhi : ∀ G, EvD (Own p) K (tVar 3) [some (.ref p), some (.int wy.1), some (.int lo), some (.int hi)] G (.int hi) := fun G => var_ (by rfl) (Dp.int hi)
  have nl : ([] : List PyData).length ≤ 100000 := Nat.zero_le _
  have ol : ∀ x : PyData, [x].length ≤ 100000 := fun _ => by simp
  have tl : ∀ x y z : PyData, [x, y, z].length ≤ 100000 := fun _ _ _ => by simp
  refine st_ifB e13.fr (B := fun _ => True) (evb_test (ev_op (Φ1 := PD K (.int wy.1)) (Φ2 := PD K (.int 0)) (var_ (by rfl) (Dp.int wy.1)) evd_int fun G2 H2 u v _ f p1 p2 Q k => by
    rw [dp_int p1, dp_int p2]
    exact ⟨rfl, k _ _ _ (Ex.refl f) ⟨_, rfl, True.intro⟩⟩)) (fun _ H4 G4 e4 => ?_) fun _ H4 G4 e4 => ?_
  · exact st_ret (Φ := PE_ {s : Span // SpanOk s} fun s => PD K (.tuple [.str "span", endD s.1.1, endD s.1.2])) e4.fr ((evd_tup (ds := [.str "span", .tuple [.int lo], .tuple [.int lo]]) (evda_cons evd_str (evda_cons (evd_tup (evda_cons (vlo _) evda_nil) (ol _)) (evda_cons (evd_tup (evda_cons (vlo _) evda_nil) (ol _)) evda_nil))) (tl _ _ _)).imp fun _ _ _ h => ⟨⟨(some lo, some lo), one hlo, one hlo, fun a b ea eb => by cases ea; cases eb; exact Int.le_refl _⟩, h⟩) (exq q (e13.trans e4))
  walk_at "nx"
  refine st_ifB e4.fr (B := fun _ => True) (evb_test (ev_op (Φ1 := PD K (.int wy.1)) (Φ2 := PD K (.int 1)) (var_ (by rfl) (Dp.int wy.1)) evd_int fun G2 H2 u v _ f p1 p2 Q k => by
    rw [dp_int p1, dp_int p2]
    exact ⟨rfl, k _ _ _ (Ex.refl f) ⟨_, rfl, True.intro⟩⟩)) (fun _ H5 G5 e5 => ?_) fun _ H5 G5 e5 => ?_
  · exact st_ret (Φ := PE_ {s : Span // SpanOk s} fun s => PD K (.tuple [.str "span", endD s.1.1, endD s.1.2])) e5.fr ((evd_tup (ds := [.str "span", .tuple [], .tuple [.int hi]]) (evda_cons evd_str (evda_cons (evd_tup evda_nil nl) (evda_cons (evd_tup (evda_cons (vhi _) evda_nil) (ol _)) evda_nil))) (tl _ _ _)).imp fun _ _ _ h => ⟨⟨(none, some hi), non, one hhi, fun a b ea eb => by cases ea⟩, h⟩) (exq q ((e13.trans e4).trans e5))
  walk_at "nx"
  refine st_ifB e5.fr (B := fun _ => True) (evb_test (ev_op (Φ1 := PD K (.int wy.1)) (Φ2 := PD K (.int 2)) (var_ (by rfl) (Dp.int wy.1)) evd_int fun G2 H2 u v _ f p1 p2 Q k => by
    rw [dp_int p1, dp_int p2]
    exact ⟨rfl, k _ _ _ (Ex.refl f) ⟨_, rfl, True.intro⟩⟩)) (fun _ H6 G6 e6 => ?_) fun _ H6 G6 e6 => ?_
  · exact st_ret (Φ := PE_ {s : Span // SpanOk s} fun s => PD K (.tuple [.str "span", endD s.1.1, endD s.1.2])) e6.fr ((evd_tup (ds := [.str "span", .tuple [.int lo], .tuple []]) (evda_cons evd_str (evda_cons (evd_tup (evda_cons (vlo _) evda_nil) (ol _)) (evda_cons (evd_tup evda_nil nl) evda_nil))) (tl _ _ _)).imp fun _ _ _ h => ⟨⟨(some lo, none), one hlo, non, fun a b ea eb => by cases eb⟩, h⟩) (exq q (((e13.trans e4).trans e5).trans e6))
  walk_at "nx"
  have e16 := ((e13.trans e4).trans e5).trans e6
  refine st_if (b := decide (wy.1 = 3) && decide (hi.fmod 3 = 0)) e6.fr (evt_and (evt_test (K := K) (eqI_ (var_ (by rfl) (Dp.int wy.1)) evd_int rfl)) fun _ => evt_test (K := K) (eqI_ (intC_ (C := fun _ j => j ≠ 0) (g := fun i j => i.fmod j) (vhi _) (evd_int (i := 3)) (by decide) rfl) evd_int rfl)) (fun _ H7 G7 e7 => ?_) fun _ H7 G7 e7 => ?_
  · exact st_ret (Φ := PE_ {s : Span // SpanOk s} fun s => PD K (.tuple [.str "span", endD s.1.1, endD s.1.2])) e7.fr ((evd_tup (ds := [.str "span", .tuple [], .tuple []]) (evda_cons evd_str (evda_cons (evd_tup evda_nil nl) (evda_cons (evd_tup evda_nil nl) evda_nil))) (tl _ _ _)).imp fun _ _ _ h => ⟨⟨(none, none), non, non, fun a b ea eb => by cases ea⟩, h⟩) (exq q (e16.trans e7))
  walk_at "nx"
  refine st_ret (Φ := PE_ {s : Span // SpanOk s} fun s => PD K (.tuple [.str "span", endD s.1.1, endD s.1.2])) e7.fr ((evd_tup (ds := [.str "span", .tuple [.int (if hi < lo then hi else lo)], .tuple [.int (if lo < hi then hi else lo)]]) (evda_cons evd_str (evda_cons (evd_tup (evda_cons (minI_ (vlo _) (vhi _)) evda_nil) (ol _)) (evda_cons (evd_tup (evda_cons (maxI_ (vlo _) (vhi _)) evda_nil) (ol _)) evda_nil))) (tl _ _ _)).imp fun _ _ _ h => ⟨⟨(some (if hi < lo then hi else lo), some (if lo < hi then hi else lo)), one ?_, one ?_, fun a b ea eb => ?_⟩, h⟩) (exq q (e16.trans e7))
  · split <;> assumption
  · split <;> assumption
  · cases ea
    cases eb
    split <;> split <;> omega
end
end Fm
set_option maxHeartbeats 4000000
/-! FmLF: the law's parts. -/
namespace Fm
open PySem PySem.Spec PyProof.Rows L2
local macro_rules | `(tactic| walk_at "nx") => `(tactic| try dsimp only [tSeq, tNext])
def partDF {α : Type} (e : α → PyData) : PF α → PyData
  | .name x => .tuple [.str "name", .str x]
  | .none => .tuple [.str "none"]
  | .any => .tuple [.str "any"]
  | .span s => .tuple [.str "span", endD s.1, endD s.2]
  | .inner r => .tuple [.str "inner", .list (r.map e)]
def partD : ∀ n, Prt n → PyData
  | 0 => fun p => nomatch p
  | n + 1 => partDF (partD n)
theorem ints_range {K : PySem.W.Frag} : ∀ (n lo : Nat), intsP K (lo : Int) n = (List.range' lo n).map fun (i : Nat) => PD K (.int (i : Int))
  | 0, _ => rfl
  | n + 1, lo => by
    rw [intsP, List.range'_succ, List.map_cons, ← ints_range n (lo + 1)]
    rfl
theorem lcE1 {o : Ow} {K : PySem.W.Frag} {σ : L2.St} {G : Hp} {te tk : TE} {vs : List Nat} {n k : Nat} {ι : Type} {Ψ : ι → Pr} (hv : n ∈ vs) (h : EvD o K tk σ G (.int (k : Int))) (hk : k ≤ 100000) (step : ∀ x G1, Same G G1 → EvP o te ((wipe σ vs).set n (some x)) G1 (PE_ ι Ψ)) :
    EvP o (tLc (iRng1 (tCons tk tNil)) (gName n) tYes te vs) σ G (PE_ {l : List ι // l.length = k} fun l => PLn (l.1.map Ψ)) := by
  have hi : ItOk o (iRng1 (tCons tk tNil)) σ G ((List.range' 0 k).map fun (i : Nat) => PD K (.int (i : Int))) := by
    have := ito_range1 (K := K) (n := k) (eva_cons h eva_nil) rfl (Nat.lt_of_le_of_lt hk (by decide))
    rw [show intsP K 0 k = _ from ints_range k 0] at this
    exact this
  refine (lc1 (p := fun _ => true) (ψ := fun _ => PE_ ι Ψ) hv hi (by rw [List.length_range']; exact hk) fun b _ x G1 s _ => ⟨evt_yes, fun _ => step x G1 s⟩).imp fun G1 v _ p => ?_
  rw [List.filter_eq_self.mpr (fun _ _ => rfl)] at p
  obtain ⟨a, xs, e, h1, h2⟩ := p
  obtain ⟨l, hl, h3⟩ := allp_E h2
  exact ⟨⟨l, by rw [hl, List.length_range']⟩, a, xs, e, h1, h3⟩
section
variable {P : Program} {w : World} {K : PySem.W.Frag} {mg : Str → Option Value} {base : Heap}
def S_Lpart (K : PySem.W.Frag) (n : Nat) : Ow → List Pr → Pr → Prop := fun o Φs Ψ => ∃ (p : Addr) (nms : List Str) (d : Nat), o = Own p ∧ d ≤ 3 ∧ 4 ≤ d + n ∧ nms.length ≤ 20 ∧ (∀ x ∈ nms, PyData.strOk x = true) ∧ Φs = [PV (.ref p), PD K (.list (nms.map .str)), PD K (.int (d : Int))] ∧ Ψ = PE_ {q : Prt n // POk (fun x => x ∈ nms) n q} fun q => PD K (partD n q.1)
theorem allp3 {Φ1 Φ2 Φ3 : Pr} {G : Hp} {vs : List V} (h : AllP [Φ1, Φ2, Φ3] G vs) : ∃ x y z, vs = [x, y, z] ∧ Φ1.p G x ∧ Φ2.p G y ∧ Φ3.p G z := by
  match vs, h with
  | x :: us, h =>
    obtain ⟨y, z, rfl, q⟩ := allp2 h.2
    exact ⟨x, y, z, rfl, h.1, q⟩
  | [], h => exact h.elim
theorem ok_Lpart_step {n k : Nat} (hk : 3 ≤ k) (Z : Zs mg) (D_Ltake : Def P w K mg base 1 "_law_take" ["_law_purse", "_law_many"] (Fn (S_Ltake K))) (D_Lspan : Def P w K mg base 3 "_law_span" ["_law_purse"] (Fn (S_Lspan K))) (D_Lpart : Def P w K mg base k "_law_part" ["_law_purse", "_law_names", "_law_deep"] (Fn (S_Lpart K n)))
    (A : At K mg "_law_part" s_Lpart) : Def P w K mg base (k + 1) "_law_part" ["_law_purse", "_law_names", "_law_deep"] (Fn (S_Lpart K (n + 1))) := by
  refine def_of A sc_Lpart (fun _ _ _ _ _ _ us hl => match us, hl with | [_, _, _], _ => rfl) (fun vs H Q E h => Fn.len (fun o Φs Ψ ⟨_, _, _, _, _, _, _, _, h3, _⟩ => by rw [h3] <;> rfl) h) fun f cdv A outer s H vs Q E hr h => ?_
  obtain ⟨_, _, _, G, ⟨p, nms, d, rfl, hd3, hdn, hnl, hok, rfl, rfl⟩, fr, hv, q⟩ := h
  obtain ⟨x, y, z, rfl, hx, hy, hz⟩ := allp3 hv
  have hx : x = .ref p := hx
  have hz : z = .int d := dp_int hz
  subst hx hz
  refine ⟨_, (pss_cons (ps_set (i := 3) sc_Lpart.nd rfl (.inl rfl) (pe_def D_Ltake hr (by omega) (by rfl) (pa_cons (pv 0) (pa_cons pe_int pa_nil))))
    (pss_cons (ps_if (PW.pt (pw_and (pt_cmpR op_lt (pv 3) pe_int (nomark _)) (pw_and1 (pt_cmpR (kNeD (K := K) rfl hr.units) (pv 1) (pe_lst pa_nil) (nomark _))))) (pss_one (ps_ret (pe_tup (pa_cons pe_str (pa_cons (pe_ix (ixL (K := K) rfl) (pv 1) (pe_def D_Ltake hr (by omega) (by rfl) (pa_cons (pv 0) (pa_cons (pe_callB (crLen (K := K) rfl) (by rfl) Z.len bt_len (pa_cons (pv 1) pa_nil)) pa_nil))) (fun _ _ => rfl)) pa_nil))))) pss_nil)
    (pss_cons (ps_if (pt_cmpR op_eq (pv 3) pe_int (nomark _)) (pss_one (ps_ret (pe_ix (ixL (K := K) rfl) (pe_lst (pa_cons (pe_tup (pa_cons pe_str pa_nil)) (pa_cons (pe_tup (pa_cons pe_str pa_nil)) (pa_cons (pe_tup (pa_cons pe_str pa_nil)) pa_nil)))) (pe_def D_Ltake hr (by omega) (by rfl) (pa_cons (pv 0) (pa_cons pe_int pa_nil))) (fun _ _ => rfl)))) pss_nil)
    (pss_cons (ps_if (PW.pt (pw_and (pt_cmpR op_gt (pv 3) pe_int (nomark _)) (pw_and1 (pt_cmpR op_lt (pv 2) pe_int (nomark _))))) (pss_cons (ps_set (i := 4) sc_Lpart.nd rfl (.inl rfl) (pe_op op_add pe_int (pe_def D_Ltake hr (by omega) (by rfl) (pa_cons (pv 0) (pa_cons (pe_ix (ixL (K := K) rfl) (pe_lst (pa_cons pe_int (pa_cons pe_int (pa_cons pe_int pa_nil)))) (pv 2) (fun _ _ => rfl)) pa_nil)))))
      (pss_one (ps_ret (pe_tup (pa_cons pe_str (pa_cons (pe_lc (own := [("_law_k", 5)]) (g := gName 5) (tt := tYes) rfl sc_Lpart.nd (pi_range1 (by rfl) Z.range (pa_cons (pv 4) pa_nil)) (blkOk_by (N := n_Lpart) (sc := (defScope s_Lpart)) (by decide +kernel)) (fun _ _ _ _ _ => (pg_name (i := 5) sc_Lpart.nd rfl (.inl rfl))) (fun _ _ _ _ _ => pts_nil) (fun _ _ _ _ _ => (pe_def D_Lpart hr (by omega) (by rfl) (pa_cons (pv 0) (pa_cons (pv 1) (pa_cons (pe_op op_add (pv 2) pe_int) pa_nil)))))) pa_nil)))))) pss_nil)
    (pss_one (ps_ret (pe_def D_Lspan hr (by omega) (by rfl) (pa_cons (pv 0) pa_nil)))))))), ?_⟩
  refine st_set (Φ := PTake K 8) fr (take_ (K := K) (m := 8) (p := p) (by rfl) evd_int (by decide) (by decide)) fun v1 H1 G1 e1 p1 => ?_
  obtain ⟨⟨so, hso⟩, p1⟩ := p1
  have hv1 := dp_int p1
  subst hv1
  have hy1 := dsame hy e1.gg
  walk_at "nx"
  have eL : ∀ l : List Str, PyData.bool (!PyData.eqv (.list (l.map .str)) (.list [])) = .bool (!l.isEmpty) := fun l => by
    rw [eqv_nil]
    cases l <;> rfl
  refine st_if (b := decide (so < 2) && !nms.isEmpty) e1.fr (evt_and (evt_test (K := K) (intB_ (var_ (by rfl) (Dp.int so)) evd_int rfl)) fun _ => evt_test (K := K) (neD_ (d := .list (nms.map .str)) (e := .list []) (var_ (by rfl) hy1) (evd_lst (ds := []) eva_nil (by decide)) ((nz_strs hok).shaped (by decide)) (by rfl) (eL nms))) (fun c H2 G2 e2 => ?_) fun c H2 G2 e2 => ?_
  · have hne : 0 < nms.length := by
      cases nms with
      | nil => simp at c
      | cons a r => exact Nat.succ_pos _
    have hy2 := dsame hy1 e2.gg
    have hm : ((nms.length : Nat) : Int).natAbs.log2 < 9000 := by
      rw [Int.natAbs_natCast]
      exact Nat.lt_of_le_of_lt (Nat.log2_le_self _) (by omega)
    refine st_ret (Φ := PE_ {q : Prt (n + 1) // POk (fun x => x ∈ nms) (n + 1) q} fun q => PD K (partD (n + 1) q.1)) e2.fr ((ev_tup (K := K) (Φs := [PD K (.str "name"), PE_ {x : Str // x ∈ nms} fun x => PD K (.str x.1)]) (eva_cons evd_str (eva_cons (ev_op (Φ1 := PD K (.list (nms.map .str))) (Φ2 := PTake K (nms.length : Nat)) (var_ (by rfl) hy2) (take_ (K := K) (m := (nms.length : Nat)) (p := p) (by rfl) (lenLD_ (ds := nms.map .str) (var_ (by rfl) hy2) (by rw [List.length_map])) (by omega) hm) fun G3 H3 u v _ f p1 p2 Q k => ?_) eva_nil)) (by show 2 ≤ _; decide)).imp fun G3 v _ ⟨a, xs, e, h1, h2⟩ => ?_) (exq q (e1.trans e2))
    · obtain ⟨i, p2⟩ := p2
      obtain ⟨a, xs, rfl, hx, hd⟩ := dp_lst p1
      have hxs := dpall_strs hd
      subst hxs
      obtain ⟨c, hc, hat⟩ := atI_lt (l := nms.map V.str) i.2.1 (by rw [List.length_map]; exact i.2.2)
      obtain ⟨x, hx2, rfl⟩ := List.mem_map.mp hc
      exact ⟨a, _, i.1, .str x, rfl, dp_int p2, Same.lst f.sub hx, hat, k _ _ _ (Ex.refl f) ⟨⟨x, hx2⟩, Dp.str x⟩⟩
    · obtain ⟨y1, y2, rfl, q1, ⟨⟨x, hx⟩, q2⟩⟩ := allp2 h2
      refine ⟨⟨(.name x : PF (Prt n)), hx⟩, ?_⟩
      rw [e]
      exact Dp.tup h1 (.cons q1 (.cons q2 .nil))
  walk_at "nx"
  have e12 := e1.trans e2
  refine st_if (b := decide (so = 2)) e2.fr (evt_test (K := K) (eqI_ (var_ (by rfl) (Dp.int so)) evd_int rfl)) (fun _ H3 G3 e3 => ?_) fun _ H3 G3 e3 => ?_
  · have t1 : ∀ (x : Str) G, EvD (Own p) K (tTup (tCons (tC (V.str x)) tNil)) [some (.ref p), some y, some (.int d), some (.int so), none, none] G (.tuple [.str x]) := fun x G => evd_tup (evda_cons evd_str evda_nil) (by show 1 ≤ _; decide)
    refine st_ret (Φ := PE_ {q : Prt (n + 1) // POk (fun x => x ∈ nms) (n + 1) q} fun q => PD K (partD (n + 1) q.1)) e3.fr (ev_op (Φ1 := PD K (.list [.tuple [.str "none"], .tuple [.str "none"], .tuple [.str "any"]])) (Φ2 := PTake K 3) (evd_lst (evda_cons (t1 _ _) (evda_cons (t1 _ _) (evda_cons (t1 _ _) evda_nil))) (by show 3 ≤ _; decide)) (take_ (K := K) (m := 3) (p := p) (by rfl) evd_int (by decide) (by decide)) fun G4 H4 u v _ f p1 p2 Q k => ?_) (exq q (e12.trans e3))
    obtain ⟨i, p2⟩ := p2
    obtain ⟨a, xs, rfl, hx, hd⟩ := dp_lst p1
    obtain ⟨x1, x2, x3, rfl, d1, d2, d3⟩ := dpall3 hd
    have h0 := i.2.1
    have h3 := i.2.2
    rcases (by omega : i.1 = 0 ∨ i.1 = 1 ∨ i.1 = 2) with e | e | e
    · exact ⟨a, _, i.1, x1, rfl, dp_int p2, Same.lst f.sub hx, by rw [e]; rfl, k _ _ _ (Ex.refl f) ⟨⟨(.none : PF (Prt n)), True.intro⟩, d1⟩⟩
    · exact ⟨a, _, i.1, x2, rfl, dp_int p2, Same.lst f.sub hx, by rw [e]; rfl, k _ _ _ (Ex.refl f) ⟨⟨(.none : PF (Prt n)), True.intro⟩, d2⟩⟩
    · exact ⟨a, _, i.1, x3, rfl, dp_int p2, Same.lst f.sub hx, by rw [e]; rfl, k _ _ _ (Ex.refl f) ⟨⟨(.any : PF (Prt n)), True.intro⟩, d3⟩⟩
  walk_at "nx"
  have e13 := e12.trans e3
  refine st_if (b := decide (4 < so) && decide ((d : Int) < 3)) e3.fr (evt_and (evt_test (K := K) (intB_ (var_ (by rfl) (Dp.int so)) evd_int rfl)) fun _ => evt_test (K := K) (intB_ (var_ (by rfl) (Dp.int (d : Int))) evd_int rfl)) (fun c H4 G4 e4 => ?_) fun _ H4 G4 e4 => ?_
  · have hd : d < 3 := by
      rw [Bool.and_eq_true] at c
      have := of_decide_eq_true c.2
      omega
    obtain ⟨m, hm, hat⟩ : ∃ m : Nat, (m = 1 ∨ m = 2) ∧ atI [PyData.int 2, PyData.int 1, PyData.int 1] (d : Int) = some (.int m) := by
      rcases (by omega : d = 0 ∨ d = 1 ∨ d = 2) with e | e | e
      · exact ⟨2, .inr rfl, by rw [e]; rfl⟩
      · exact ⟨1, .inl rfl, by rw [e]; rfl⟩
      · exact ⟨1, .inl rfl, by rw [e]; rfl⟩
    have hml : ((m : Nat) : Int).natAbs.log2 < 9000 := by rcases hm with e | e <;> rw [e] <;> decide
    refine st_set (Φ := PE_ {j : Nat // 1 ≤ j ∧ j ≤ 2} fun j => PD K (.int (j.1 : Int))) e4.fr (ev_op (Φ1 := PD K (.int 1)) (Φ2 := PTake K m) evd_int (take_ (K := K) (m := m) (p := p) (by rfl) (evd_ixL (evd_lst (ds := [.int 2, .int 1, .int 1]) (evda_cons evd_int (evda_cons evd_int (evda_cons evd_int evda_nil))) (by show 3 ≤ _; decide)) (var_ (by rfl) (Dp.int (d : Int))) hat) (by omega) hml) fun G5 H5 u v _ f p1 p2 Q k => ?_) fun v5 H5 G5 e5 p5 => ?_
    · obtain ⟨i, p2⟩ := p2
      have h0 := i.2.1
      have h1 := i.2.2
      refine ⟨1, i.1, dp_int p1, dp_int p2, k _ _ _ (Ex.refl f) ⟨⟨(1 + i.1).toNat, by omega, by omega⟩, ?_⟩⟩
      show Dp K G5 (.int (1 + i.1)) (.int ((1 + i.1).toNat : Int))
      rw [show (((1 + i.1).toNat : Nat) : Int) = 1 + i.1 by omega]
      exact Dp.int _
    obtain ⟨⟨j, hj1, hj2⟩, p5⟩ := p5
    have hv5 : v5 = .int j := dp_int p5
    subst hv5
    walk_at "nx"
    have hy5 := dsame hy1 ((e2.gg.trans e3.gg).trans (e4.gg.trans e5.gg))
    refine st_ret (Φ := PE_ {q : Prt (n + 1) // POk (fun x => x ∈ nms) (n + 1) q} fun q => PD K (partD (n + 1) q.1)) e5.fr ((ev_tup (K := K) (Φs := [PD K (.str "inner"), PE_ {l : List {q : Prt n // POk (fun x => x ∈ nms) n q} // l.length = j} fun l => PLn (l.1.map fun q => PD K (partD n q.1))]) (eva_cons evd_str (eva_cons (lcE1 (K := K) (by decide) (var_ (by rfl) (Dp.int (j : Int))) (by omega) fun x G6 s6 => ?_) eva_nil)) (by show 2 ≤ _; decide)).imp fun G6 v _ ⟨a, xs, e, h1, h2⟩ => ?_) (exq q ((e13.trans e4).trans e5))
    · exact ev_call (Φs := [PV (.ref p), PD K (.list (nms.map .str)), PD K (.int ((d + 1 : Nat) : Int))]) (eva_cons (var_ (by rfl) rfl) (eva_cons (var_ (by rfl) (dsame hy5 s6)) (eva_cons (intI_ (var_ (by rfl) (Dp.int (d : Int))) evd_int (by push_cast; rfl)) eva_nil))) ⟨p, nms, d + 1, rfl, by omega, by omega, hnl, hok, rfl, rfl⟩ (.inr rfl)
    · obtain ⟨y1, y2, rfl, q1, ⟨⟨l, hl⟩, b, zs, rfl, hb, hal⟩⟩ := allp2 h2
      refine ⟨⟨(.inner (l.map (·.1)) : PF (Prt n)), ?_, ?_, ?_⟩, ?_⟩
      · intro z
        have := congrArg List.length z
        rw [List.length_map, hl] at this
        simp at this
        omega
      · rw [List.length_map, hl]; omega
      · intro p hp
        obtain ⟨q, _, rfl⟩ := List.mem_map.mp hp
        exact q.2
      · rw [e]
        refine Dp.tup h1 (.cons q1 (.cons ?_ .nil))
        refine Dp.lst (.inl (.inl hb)) ?_
        refine allp_da ?_
        rw [List.map_map, List.map_map]
        exact hal
  walk_at "nx"
  refine st_ret (Φ := PE_ {q : Prt (n + 1) // POk (fun x => x ∈ nms) (n + 1) q} fun q => PD K (partD (n + 1) q.1)) e4.fr ((ev_call (Φs := [PV (.ref p)]) (Ψ := PE_ {s : Span // SpanOk s} fun s => PD K (.tuple [.str "span", endD s.1.1, endD s.1.2])) (eva_cons (var_ (by rfl) rfl) eva_nil) ⟨p, rfl, rfl, rfl⟩ (.inr rfl)).imp fun G5 v _ ⟨s, h⟩ => ⟨⟨(.span s.1 : PF (Prt n)), s.2⟩, h⟩) (exq q (e13.trans e4))
theorem ok_Lparts (Z : Zs mg) (D_Ltake : Def P w K mg base 1 "_law_take" ["_law_purse", "_law_many"] (Fn (S_Ltake K))) (D_Lspan : Def P w K mg base 3 "_law_span" ["_law_purse"] (Fn (S_Lspan K)))
    (A : At K mg "_law_part" s_Lpart) : ∀ n, Def P w K mg base (3 + n) "_law_part" ["_law_purse", "_law_names", "_law_deep"] (Fn (S_Lpart K n))
  | 0 => def_vac A sc_Lpart (fun _ _ _ _ _ _ us hl => match us, hl with | [_, _, _], _ => rfl) fun o Φs Ψ ⟨_, _, _, _, h, h', _⟩ => by omega
  | n + 1 => ok_Lpart_step (Nat.le_add_right 3 n) Z D_Ltake D_Lspan (ok_Lparts Z D_Ltake D_Lspan A n) A
end
end Fm
set_option maxHeartbeats 4000000
/-! FmLG: the law's texts. -/
namespace Fm
open PySem PySem.Spec PyProof.Rows L2
local macro_rules | `(tactic| walk_at "nx") => `(tactic| try dsimp only [tSeq, tNext])
section
variable {P : Program} {w : World} {K : PySem.W.Frag} {mg : Str → Option Value} {base : Heap}
def R_Lend : List PyData → PyData → Prop := fun ds d => ∃ e, EndOk e ∧ ds = [endD e] ∧ d = .str (endT e)
theorem ok_Lend (Z : Zs mg) (A : At K mg "_law_end" s_Lend) : Def P w K mg base 1 "_law_end" ["_law_low"] (FnR K 1 R_Lend) := by
  refine def_of A sc_Lend (fun _ _ _ _ _ _ us hl => match us, hl with | [_], _ => rfl) (fun vs H Q E h => h.len) fun f cdv A outer s H vs Q E hr h => ?_
  obtain ⟨ds, d, G, hn, ⟨e, he, rfl, rfl⟩, fr, hv, q⟩ := h.open
  obtain ⟨v, rfl, hx⟩ := dpall1 hv
  refine ⟨_, (pss_one (ps_ret (pe_join pe_str (pe_lc (own := [("_law_number_here", 1)]) (g := gName 1) (tt := tYes) rfl sc_Lend.nd (kPiT (K := K) rfl (pv 0)) (blkOk_by (N := n_Lend) (sc := (defScope s_Lend)) (by decide +kernel)) (fun _ _ _ _ _ => (pg_name (i := 1) sc_Lend.nd rfl (.inl rfl))) (fun _ _ _ _ _ => pts_nil) (fun _ _ _ _ _ => (pe_callTy call_str_int (by rfl) Z.str bt_str (pa_cons (pv 1) pa_nil))))))), ?_⟩
  refine st_ret fr (join_ (ps := endL e) evd_str ?_ ?_ (by rw [join1])) q
  · have hq : ∀ c : List Int, (∀ n ∈ c, n.natAbs < 10 ^ 60) → Dp K G v (.tuple (c.map .int)) → c.length ≤ 1 → EvD .no K (tLc (iTup K (tVar 0)) (gName 1) tYes (tCB rStrI (tCons (tVar 1) tNil)) [1]) [some v, none] G (.list (c.map fun n => .str (numT n))) := fun c hc h1 h2 => by
      refine lcd1 (bs := c) (by decide) (ito_tupF (bs := c) (enc := .int) (var_ (by rfl) h1)) (by omega) fun n hn y G1 s1 hy => ?_
      exact strI_ (var_ (by rfl) hy) (log60 (hc n hn))
    cases e with
    | none => exact hq [] (by simp) hx (by simp)
    | some n => exact hq [n] (by intro m hm; rw [List.mem_singleton.mp hm]; exact he.sm n rfl) hx (by simp)
  · cases e with
    | none => exact Nat.zero_le _
    | some n =>
      have := numT_len (he.sm n rfl)
      show (numT n).length + 0 + 1 * 0 ≤ 16777216
      omega
def S_Lpart_text (K : PySem.W.Frag) (n : Nat) : Ow → List Pr → Pr → Prop := fun o Φs Ψ => o = .no ∧ ∃ nm, ∃ p : Prt n, NmOk nm ∧ n ≤ 4 ∧ POk nm n p ∧ Φs = [PD K (partD n p)] ∧ Ψ = PD K (.str (partT n p))
def S_Ltext (K : PySem.W.Frag) (n : Nat) : Ow → List Pr → Pr → Prop := fun o Φs Ψ => o = .no ∧ ∃ nm, ∃ r : List (Prt n), NmOk nm ∧ n ≤ 4 ∧ ROk nm n r ∧ Φs = [PD K (.list (r.map (partD n)))] ∧ Ψ = PD K (.str (rowT n r))
theorem ok_Ltext {n k : Nat} (Z : Zs mg) (D_Lpart_text : Def P w K mg base k "_law_part_text" ["_law_part_here"] (Fn (S_Lpart_text K n))) (A : At K mg "_law_text" s_Ltext) : Def P w K mg base (k + 1) "_law_text" ["_law_row"] (Fn (S_Ltext K n)) := by
  refine def_of A sc_Ltext (fun _ _ _ _ _ _ us hl => match us, hl with | [_], _ => rfl) (fun vs H Q E h => Fn.len (fun o Φs Ψ ⟨_, _, _, _, _, _, h3, _⟩ => by rw [h3] <;> rfl) h) fun f cdv A outer s H vs Q E hr h => ?_
  obtain ⟨_, _, _, G, ⟨rfl, nm, r, hnm, hn, hrow, rfl, rfl⟩, fr, hv, q⟩ := h
  obtain ⟨v, rfl, hx⟩ := allp1 hv
  refine ⟨_, (pss_one (ps_ret (pe_join pe_str (pe_lc (own := [("_law_part_here", 1)]) (g := gName 1) (tt := tYes) rfl sc_Ltext.nd (kPiL (K := K) rfl (pv 0)) (blkOk_by (N := n_Ltext) (sc := (defScope s_Ltext)) (by decide +kernel)) (fun _ _ _ _ _ => (pg_name (i := 1) sc_Ltext.nd rfl (.inl rfl))) (fun _ _ _ _ _ => pts_nil) (fun _ _ _ _ _ => (pe_def D_Lpart_text hr (by omega) (by rfl) (pa_cons (pv 1) pa_nil))))))), ?_⟩
  have hfew := hrow.few
  refine st_ret fr (join_ (ps := r.map (partT n)) evd_str ?_ ?_ rfl) q
  · rw [List.map_map]
    refine lcd1 (bs := r) (Θ := fun p => PD K (partD n p)) (f := fun p => .str (partT n p)) (by decide) (ito_listF (enc := partD n) (var_ (by rfl) hx)) (by omega) fun p hp y G1 s1 hy => ?_
    exact ev_call (Φs := [PD K (partD n p)]) (eva_cons (var_ (by rfl) hy) eva_nil) ⟨rfl, nm, p, hnm, hn, hrow.ok p hp, rfl, rfl⟩ (.inl rfl)
  · have h1 := sum_le (ps := r.map (partT n)) (B := 6000) fun p hp => by
      obtain ⟨x, hx, rfl⟩ := List.mem_map.mp hp
      exact Nat.le_trans (part_len hnm n x (hrow.ok x hx)) (lenB_le n hn)
    rw [List.length_map] at h1 ⊢
    rw [show ("|" : Str).length = 1 from rfl]
    omega
theorem ok_Lpart_text {n k : Nat} (hk : 1 ≤ k) (Z : Zs mg) (D_Lend : Def P w K mg base 1 "_law_end" ["_law_low"] (FnR K 1 R_Lend)) (D_Ltext : Def P w K mg base k "_law_text" ["_law_row"] (Fn (S_Ltext K n))) (A : At K mg "_law_part_text" s_Lpart_text) : Def P w K mg base (k + 1) "_law_part_text" ["_law_part_here"] (Fn (S_Lpart_text K (n + 1))) := by
  refine def_of A sc_Lpart_text (fun _ _ _ _ _ _ us hl => match us, hl with | [_], _ => rfl) (fun vs H Q E h => Fn.len (fun o Φs Ψ ⟨_, _, _, _, _, _, h3, _⟩ => by rw [h3] <;> rfl) h) fun f cdv A outer s H vs Q E hr h => ?_
  obtain ⟨_, _, _, G, ⟨rfl, nm, pt, hnm, hn4, hok, rfl, rfl⟩, fr, hv, q⟩ := h
  obtain ⟨v, rfl, hx⟩ := allp1 hv
  refine ⟨_, (pss_cons (ps_if (pt_cmpR op_eq (pe_ix (ixT (K := K) rfl) (pv 0) pe_int (fun _ _ => rfl)) pe_str (nomark _)) (pss_one (ps_ret (pe_ix (ixT (K := K) rfl) (pv 0) pe_int (fun _ _ => rfl)))) pss_nil)
    (pss_cons (ps_if (pt_cmpR op_eq (pe_ix (ixT (K := K) rfl) (pv 0) pe_int (fun _ _ => rfl)) pe_str (nomark _)) (pss_one (ps_ret (pe_op op_add_str (pe_op op_add_str pe_str (pe_def D_Ltext hr (by omega) (by rfl) (pa_cons (pe_ix (ixT (K := K) rfl) (pv 0) pe_int (fun _ _ => rfl)) pa_nil))) pe_str))) pss_nil)
    (pss_cons (ps_if (pt_cmpR op_ne (pe_ix (ixT (K := K) rfl) (pv 0) pe_int (fun _ _ => rfl)) pe_str (nomark _)) (pss_one (ps_ret (pe_ix (ixT (K := K) rfl) (pv 0) pe_int (fun _ _ => rfl)))) pss_nil)
    (pss_cons (ps_if (PW.pt (pw_and (pt_cmpR (kEqD (K := K) rfl hr.units) (pe_ix (ixT (K := K) rfl) (pv 0) pe_int (fun _ _ => rfl)) (pe_ix (ixT (K := K) rfl) (pv 0) pe_int (fun _ _ => rfl)) (nomark _)) (pw_and1 (pt_cmpR (kNeD (K := K) rfl hr.units) (pe_ix (ixT (K := K) rfl) (pv 0) pe_int (fun _ _ => rfl)) (pe_tup pa_nil) (nomark _))))) (pss_one (ps_ret (pe_def D_Lend hr (by omega) (by rfl) (pa_cons (pe_ix (ixT (K := K) rfl) (pv 0) pe_int (fun _ _ => rfl)) pa_nil)))) pss_nil)
    (pss_one (ps_ret (pe_op op_add_str (pe_op op_add_str (pe_def D_Lend hr (by omega) (by rfl) (pa_cons (pe_ix (ixT (K := K) rfl) (pv 0) pe_int (fun _ _ => rfl)) pa_nil)) pe_str) (pe_def D_Lend hr (by omega) (by rfl) (pa_cons (pe_ix (ixT (K := K) rfl) (pv 0) pe_int (fun _ _ => rfl)) pa_nil))))))))), ?_⟩
  have yes : ∀ {σ : L2.St} {G : Hp} {ta : TE} {x y : Str}, EvD .no K ta σ G (.str x) → x = y → EvT .no (tTest (tOp rEq ta (tC (.str y)))) σ G true := fun h e => evt_test (K := K) (eqS_ h evd_str (by rw [decide_eq_true e]))
  have no : ∀ {σ : L2.St} {G : Hp} {ta : TE} {x y : Str}, EvD .no K ta σ G (.str x) → x ≠ y → EvT .no (tTest (tOp rEq ta (tC (.str y)))) σ G false := fun h e => evt_test (K := K) (eqS_ h evd_str (by rw [decide_eq_false e]))
  match pt, hok with
  | .name x, hok =>
    have i0 : ∀ {G1}, Same G G1 → EvD .no K (tOp (rIxT K) (tVar 0) (tC (.int 0))) [some v] G1 (.str "name") := fun s => evd_ixT (ds := [.str "name", .str x]) (var_ (by rfl) (dsame hx s)) evd_int rfl
    refine st_yes fr (yes (i0 (Same.refl _)) rfl) fun H1 G1 e1 => ?_
    exact st_ret e1.fr (evd_ixT (ds := [.str "name", .str x]) (var_ (by rfl) (dsame hx e1.gg)) evd_int rfl) (exq q e1)
  | .inner r, hok =>
    have i0 : ∀ {G1}, Same G G1 → EvD .no K (tOp (rIxT K) (tVar 0) (tC (.int 0))) [some v] G1 (.str "inner") := fun s => evd_ixT (ds := [.str "inner", .list (r.map (partD n))]) (var_ (by rfl) (dsame hx s)) evd_int rfl
    refine st_no fr (no (i0 (Same.refl _)) (by decide)) fun H1 G1 e1 => ?_
    walk_at "nx"
    refine st_yes e1.fr (yes (i0 e1.gg) rfl) fun H2 G2 e2 => ?_
    have hrow : ROk nm n r := POk.row hok
    have hl4 := row_len hnm (by omega) hrow
    refine st_ret e2.fr (addS_ (addS_ evd_str (ev_call (Φs := [PD K (.list (r.map (partD n)))]) (eva_cons (evd_ixT (ds := [.str "inner", .list (r.map (partD n))]) (var_ (by rfl) (dsame hx (e1.gg.trans e2.gg))) evd_int rfl) eva_nil) ⟨rfl, nm, r, hnm, by omega, hrow, rfl, rfl⟩ (.inl rfl)) (by rw [show ("[" : Str).length = 1 from rfl]; omega) rfl) evd_str ?_ rfl) (exq q (e1.trans e2))
    rw [len_sg, sg_app, List.length_append, ← len_sg, ← len_sg, show ("[" : Str).length = 1 from rfl, show ("]" : Str).length = 1 from rfl]
    omega
  | .none, hok =>
    have i0 : ∀ {G1}, Same G G1 → EvD .no K (tOp (rIxT K) (tVar 0) (tC (.int 0))) [some v] G1 (.str "none") := fun s => evd_ixT (ds := [.str "none"]) (var_ (by rfl) (dsame hx s)) evd_int rfl
    refine st_no fr (no (i0 (Same.refl _)) (by decide)) fun H1 G1 e1 => ?_
    walk_at "nx"
    refine st_no e1.fr (no (i0 e1.gg) (by decide)) fun H2 G2 e2 => ?_
    walk_at "nx"
    refine st_yes e2.fr (evt_test (K := K) (neS_ (i0 (e1.gg.trans e2.gg)) evd_str (by rfl))) fun H3 G3 e3 => ?_
    exact st_ret e3.fr (i0 ((e1.gg.trans e2.gg).trans e3.gg)) (exq q ((e1.trans e2).trans e3))
  | .any, hok =>
    have i0 : ∀ {G1}, Same G G1 → EvD .no K (tOp (rIxT K) (tVar 0) (tC (.int 0))) [some v] G1 (.str "any") := fun s => evd_ixT (ds := [.str "any"]) (var_ (by rfl) (dsame hx s)) evd_int rfl
    refine st_no fr (no (i0 (Same.refl _)) (by decide)) fun H1 G1 e1 => ?_
    walk_at "nx"
    refine st_no e1.fr (no (i0 e1.gg) (by decide)) fun H2 G2 e2 => ?_
    walk_at "nx"
    refine st_yes e2.fr (evt_test (K := K) (neS_ (i0 (e1.gg.trans e2.gg)) evd_str (by rfl))) fun H3 G3 e3 => ?_
    exact st_ret e3.fr (i0 ((e1.gg.trans e2.gg).trans e3.gg)) (exq q ((e1.trans e2).trans e3))
  | .span sp, hok =>
    have hs : SpanOk sp := hok
    have l1 := endT_len hs.lo
    have l2 := endT_len hs.hi
    have hdd : sg (".." : Str) = 46 :: [46] := rfl
    have i0 : ∀ {G1}, Same G G1 → EvD .no K (tOp (rIxT K) (tVar 0) (tC (.int 0))) [some v] G1 (.str "span") := fun s => evd_ixT (ds := [.str "span", endD sp.1, endD sp.2]) (var_ (by rfl) (dsame hx s)) evd_int rfl
    have i1 : ∀ {G1}, Same G G1 → EvD .no K (tOp (rIxT K) (tVar 0) (tC (.int 1))) [some v] G1 (endD sp.1) := fun s => evd_ixT (ds := [.str "span", endD sp.1, endD sp.2]) (var_ (by rfl) (dsame hx s)) evd_int rfl
    have i2 : ∀ {G1}, Same G G1 → EvD .no K (tOp (rIxT K) (tVar 0) (tC (.int 2))) [some v] G1 (endD sp.2) := fun s => evd_ixT (ds := [.str "span", endD sp.1, endD sp.2]) (var_ (by rfl) (dsame hx s)) evd_int rfl
    have c1 : ∀ {G1}, Same G G1 → EvD .no K (tCall (FnR K 1 R_Lend) [] E0 (tCons (tOp (rIxT K) (tVar 0) (tC (.int 1))) tNil)) [some v] G1 (.str (endT sp.1)) := fun s => evd_call (ds := [endD sp.1]) (eva_cons (i1 s) eva_nil) (by rfl) ⟨_, hs.lo, rfl, rfl⟩
    have c2 : ∀ {G1}, Same G G1 → EvD .no K (tCall (FnR K 1 R_Lend) [] E0 (tCons (tOp (rIxT K) (tVar 0) (tC (.int 2))) tNil)) [some v] G1 (.str (endT sp.2)) := fun s => evd_call (ds := [endD sp.2]) (eva_cons (i2 s) eva_nil) (by rfl) ⟨_, hs.hi, rfl, rfl⟩
    refine st_no fr (no (i0 (Same.refl _)) (by decide)) fun H1 G1 e1 => ?_
    walk_at "nx"
    refine st_no e1.fr (no (i0 e1.gg) (by decide)) fun H2 G2 e2 => ?_
    walk_at "nx"
    have s2 := e1.gg.trans e2.gg
    refine st_no e2.fr (evt_test (K := K) (neS_ (i0 s2) evd_str (by rfl))) fun H3 G3 e3 => ?_
    walk_at "nx"
    have s3 := s2.trans e3.gg
    have E3 := (e1.trans e2).trans e3
    refine st_if (b := decide (sp.1 = sp.2) && decide (sp.1 ≠ none)) e3.fr (evt_and (evt_test (K := K) (eqD_ (i1 s3) (i2 s3) (endD_shaped _) (endD_shaped _) (by rw [endD_eqv]))) fun _ => evt_test (K := K) (neD_ (i1 s3) (evd_tup (ds := []) eva_nil (by decide)) (endD_shaped _) unit_shaped ?_)) (fun hb H4 G4 e4 => ?_) (fun hb H4 G4 e4 => ?_)
    · rw [endD_unit]
      cases sp.1 <;> rfl
    · rw [Bool.and_eq_true, decide_eq_true_eq, decide_eq_true_eq] at hb
      rw [partT_span] at q
      unfold spanT at q
      rw [if_pos hb] at q
      exact st_ret e4.fr (c1 (s3.trans e4.gg)) (exq q (E3.trans e4))
    · walk_at "nx"
      have hb' : ¬ (sp.1 = sp.2 ∧ sp.1 ≠ none) := by
        intro h
        rw [decide_eq_true h.1, decide_eq_true h.2] at hb
        cases hb
      rw [partT_span] at q
      unfold spanT at q
      rw [if_neg hb'] at q
      have s4 := s3.trans e4.gg
      refine st_ret e4.fr (addS_ (addS_ (c1 s4) evd_str ?_ rfl) (c2 s4) ?_ rfl) (exq q (E3.trans e4))
      · rw [show (".." : Str).length = 2 from rfl]; omega
      · rw [len_sg, sg_app, hdd, List.length_append, ← len_sg]
        simp only [List.length_cons, List.length_nil]
        omega
theorem ok_Ltexts (Z : Zs mg) (D_Lend : Def P w K mg base 1 "_law_end" ["_law_low"] (FnR K 1 R_Lend)) (A1 : At K mg "_law_part_text" s_Lpart_text) (A2 : At K mg "_law_text" s_Ltext) :
    ∀ n, Def P w K mg base (1 + 2 * n) "_law_part_text" ["_law_part_here"] (Fn (S_Lpart_text K n)) ∧ Def P w K mg base (2 + 2 * n) "_law_text" ["_law_row"] (Fn (S_Ltext K n))
  | 0 => by
    have h0 : Def P w K mg base 1 "_law_part_text" ["_law_part_here"] (Fn (S_Lpart_text K 0)) := def_vac A1 sc_Lpart_text (fun _ _ _ _ _ _ us hl => match us, hl with | [_], _ => rfl) fun o Φs Ψ ⟨_, _, p, _⟩ => nomatch p
    exact ⟨h0, (ok_Ltext Z h0 A2).mono (by omega)⟩
  | n + 1 => by
    have h := (ok_Ltexts Z D_Lend A1 A2 n).2
    have h1 := ok_Lpart_text (by omega) Z D_Lend h A1
    exact ⟨h1.mono (by omega), (ok_Ltext Z h1 A2).mono (by omega)⟩
end
end Fm
set_option maxHeartbeats 4000000
/-! FmLI: the law's tops, stretches. -/
namespace Fm
open PySem PySem.Spec PyProof.Rows L2
local macro_rules | `(tactic| walk_at "nx") => `(tactic| try dsimp only [tSeq, tNext])
theorem filter_none {β : Type} (l : List β) (p : β → Bool) (f : β → PyData) : ((l.filter p).map f).isEmpty = !l.any p := by
  rw [List.isEmpty_map]
  induction l with
  | nil => rfl
  | cons a l ih =>
    rw [List.any_cons]
    cases h : p a with
    | true => rw [List.filter_cons_of_pos h]; rfl
    | false => rw [List.filter_cons_of_neg (by rw [h]; decide), ih]; rfl
/-- [..] == [] -/
theorem eqnil_ {o : Ow} {K : PySem.W.Frag} {σ : L2.St} {G : Hp} {tl : TE} {β : Type} {l : List β} {p : β → Bool} {f : β → PyData} (h : EvD o K tl σ G (.list ((l.filter p).map f))) (hs : SeqAt.shaped (.list ((l.filter p).map f)) = true) : EvT o (tTest (tOp (rEqD K) tl (tLst tNil))) σ G (!l.any p) :=
  evt_test (K := K) (eqD_ h (evd_lst (ds := []) eva_nil (by decide)) hs (by rfl) (by rw [eqv_nil, filter_none]))
section
variable {P : Program} {w : World} {K : PySem.W.Frag} {mg : Str → Option Value} {base : Heap}
theorem ups_below {W U : Wb} (h : UpsOf W U) {x : Str} (hx : x ∈ namesW W) (y : Str) : decide (y ∈ overW U x) = below W x y := by
  rw [Bool.eq_iff_iff, decide_eq_true_iff, below_iff]
  exact h.up x hx y
/-- y in ups[x] -/
theorem inUps_ {o : Ow} {σ : L2.St} {G : Hp} {ta tb tc : TE} {W U : Wb} {x y : Str} (hU : UpsOf W U) (hx : x ∈ namesW W) (h1 : EvD o K ta σ G (.str y)) (h2 : EvP o tb σ G (PDic U)) (h3 : EvD o K tc σ G (.str x)) : EvT o (tTest (tOp (rIn K false) ta (tDGet tb tc))) σ G (below W x y) :=
  evt_test (K := K) (inL_ (x := y) (xs := overW U x) h1 (EvP.nd (dget_ h2 h3 (hU.nm ▸ hx))) (by rw [ups_below hU hx]))
def S_Ltops (K : PySem.W.Frag) : Ow → List Pr → Pr → Prop := fun o Φs Ψ => o = .no ∧ ∃ W U l, WebIn W ∧ UpsOf W U ∧ (∀ x ∈ l, x ∈ namesW W) ∧ l.length ≤ 12 ∧ Φs = [PD K (.list (l.map .str)), PDic U] ∧ Ψ = PD K (.tuple ((topsB (below W) l).map .str))
theorem ok_Ltops (Z : Zs mg) (A : At K mg "_law_tops" s_Ltops) : Def P w K mg base 1 "_law_tops" ["_law_names", "_law_ups_here"] (Fn (S_Ltops K)) := by
  refine def_of A sc_Ltops (fun _ _ _ _ _ _ us hl => match us, hl with | [_, _], _ => rfl) (fun vs H Q E h => Fn.len (fun o Φs Ψ ⟨_, _, _, _, _, _, _, _, h3, _⟩ => by rw [h3] <;> rfl) h) fun f cdv A outer s H vs Q E hr h => ?_
  obtain ⟨_, _, _, G, ⟨rfl, W, U, l, hW, hU, hl, hlen, rfl, rfl⟩, fr, hv, q⟩ := h
  obtain ⟨x, y, rfl, hx, hy⟩ := allp2 hv
  refine ⟨_, (pss_cons (ps_set (i := 2) sc_Ltops.nd rfl (.inl rfl) (pe_lst pa_nil))
    (pss_cons (ps_for PassesOwn.never rfl (kPiL (K := K) rfl (pe_callB (kSortS (K := K) (w := w) rfl rfl rfl hr.units) (by rfl) Z.sorted bt_sorted (pa_cons (pe_callTy (kSet (K := K) (w := w) rfl rfl rfl (u72 hr)) (by rfl) Z.set bt_set (pa_cons (pv 0) pa_nil)) pa_nil))) (pg_name (i := 3) sc_Ltops.nd rfl (.inr rfl)) (pss_one (ps_if (pt_cmpR (kEqD (K := K) rfl hr.units) (pe_lc (own := [("_law_other", 4)]) (g := gName 4) rfl sc_Ltops.nd (kPiL (K := K) rfl (pv 0)) (blkOk_by (N := n_Ltops) (sc := (defScope s_Ltops)) (by decide +kernel)) (fun _ _ _ _ _ => (pg_name (i := 4) sc_Ltops.nd rfl (.inl rfl))) (fun _ _ _ _ _ => (pts_one (PW.pt (pw_and (pt_cmpR op_ne (pv 4) (pv 3) (nomark _)) (pw_and1 (pt_cmpR (kIn (K := K) rfl) (pv 4) (pe_dget (hu_of hr) (pv 1) (pv 3) (fun _ _ => rfl)) (by rfl))))))) (fun _ _ _ _ _ => (pv 4))) (pe_lst pa_nil) (nomark _)) (pss_one (ps_expr (kBm (K := K) rfl PySem.F.plainAttrs_list PySem.F.slot_list_append PySem.F.type_list_append mt_append (pv 2) (pa_cons (pv 3) pa_nil)))) pss_nil)))
    (pss_one (ps_ret (pe_callTy (crTup (K := K) rfl) (by rfl) Z.tuple bt_tuple (pa_cons (pv 2) pa_nil)))))), ?_⟩
  refine st_new fr fun p hp e0 => ?_
  have l0 : Loc .no G (upd H p (.lst [])) p [] := Loc.new fr hp
  walk_at "nx"
  have hok : ∀ z ∈ l, PyData.strOk z = true := fun z hz => isName_ok (hW.name (hl z hz))
  refine for_ e0.fr (ito_listF (bs := sortN l) (enc := .str) (sortset_ (var_ (by rfl) (ps_list hx)) (hset_strs (by omega)) (srtb_strs (by omega)) encS.sorted_set)) fun G1 H1 e1 => ?_
  have hsl : (sortN l).length ≤ 12 := Nat.le_trans (encS.len_ss l) hlen
  refine ⟨fun i σ G' H' => Lp .no G H G1 G' H' p ((((sortN l).take i).filter (topB' (below W) l)).map .str) ∧ ∃ a b, σ = [some x, some y, some (.ref p), a, b], ⟨⟨e0.trans e1, Same.refl _, by rw [List.take_zero]; exact l0.ex e1⟩, _, _, rfl⟩, fun i σ G H ⟨h, _⟩ => ⟨h.gg, h.ex.fr.sub⟩, ?_, ?_⟩
  · rintro i φ u σ G2 H2 hi hu ⟨l2, a, b, rfl⟩
    rw [List.getElem?_map] at hi
    obtain ⟨n, hn, rfl⟩ := Option.map_eq_some_iff.mp hi
    have hnl : n ∈ l := encS.mem_ss.mp (List.mem_of_getElem? hn)
    have hun : u = .str n := dp_str hu
    subst hun
    have hx2 := dsame hx (l2.ex.gg)
    have hy2 := (PDic U).mono (l2.ex.gg) hy
    have hcut : (((sortN l).take (i + 1)).filter (topB' (below W) l)) = ((sortN l).take i).filter (topB' (below W) l) ++ (if topB' (below W) l n = true then [n] else []) := by
      rw [List.take_add_one, hn, List.filter_append]
      congr 1
      show List.filter (topB' (below W) l) [n] = _
      split
      · rename_i h; rw [List.filter_cons_of_pos h]; rfl
      · rename_i h; rw [List.filter_cons_of_neg h]; rfl
    have hacc : ((((sortN l).take i).filter (topB' (below W) l)).map V.str).length < 100000 := by
      have := List.length_filter_le (topB' (below W) l) ((sortN l).take i)
      rw [List.length_map]
      rw [List.length_take] at this
      omega
    refine st_if (b := topB' (below W) l n) l2.ex.fr (eqnil_ (l := l) (p := fun o => !decide (o = n) && below W n o) (f := .str) (lcf1 (bs := l) (Θ := fun o => PD K (.str o)) (by decide) (ito_listF (enc := .str) (var_ (by rfl) hx2)) (by omega) fun o ho v G3 s3 hv3 => ⟨evt_and (evt_test (K := K) (neS_ (var_ (by rfl) hv3) (var_ (by rfl) (Dp.str n)) rfl)) fun _ => inUps_ hU (hl n hnl) (var_ (by rfl) hv3) (var_ (by rfl) ((PDic U).mono s3 hy2)) (var_ (by rfl) (Dp.str n)), fun _ => var_ (by rfl) hv3⟩) ((nz_strs fun z hz => hok z (List.mem_filter.mp hz).1).shaped (by decide))) (fun c H3 G3 e3 => ?_) fun c H3 G3 e3 => ?_
    · refine st_append (K := K) (Φ := PD K (.str n)) e3.fr (l2.step e3).loc hacc (by rfl) (var_ (by rfl) (Dp.str n)) fun v4 H4 G4 e4 p4 fr4 l4 => ?_
      rw [show v4 = .str n from dp_str p4]
      refine ⟨G4, ?_, _, _, rfl⟩
      rw [hcut, if_pos c, List.map_append]
      exact ((l2.step e3).step e4).put hp
    · walk_at "nx"
      refine ⟨G3, ?_, _, _, rfl⟩
      rw [hcut, if_neg (by rw [c]; decide), List.append_nil]
      exact l2.step e3
  · rintro σ G2 H2 ⟨l2, a, b, rfl⟩
    rw [List.length_map, List.take_length] at l2
    have e5 := l2.loc.took l2.ex hp
    walk_at "nx"
    exact st_ret e5.fr (tupLD_ (ds := (topsB (below W) l).map .str) (var_ (by rfl) (Dp.lst (.inl (.inl upd_same)) (dpall_of_strs _)))) (exq q e5)
def lowC (a b : Option Int) : Bool := match a, b with
  | none, _ => true
  | some a, some b => decide (a ≤ b)
  | some _, none => false
def highC (a b : Option Int) : Bool := match a, b with
  | none, _ => true
  | some a, some b => decide (b ≤ a)
  | some _, none => false
theorem cov_eq (t s : Span) : covB t s = (lowC t.1 s.1 && highC t.2 s.2) := rfl
def R_Lcovers : List PyData → PyData → Prop := fun ds d => ∃ t s : Span, ds = [spanD t, spanD s] ∧ d = .bool (covB t s)
theorem ok_Lcovers (A : At K mg "_law_covers" s_Lcovers) : Def P w K mg base 1 "_law_covers" ["_law_one", "_law_other"] (FnR K 2 R_Lcovers) := by
  refine def_of A sc_Lcovers (fun _ _ _ _ _ _ us hl => match us, hl with | [_, _], _ => rfl) (fun vs H Q E h => h.len) fun f cdv A outer s H vs Q E hr h => ?_
  obtain ⟨ds, d, G, hn, ⟨t, s, rfl, rfl⟩, fr, hv, q⟩ := h.open
  obtain ⟨x, y, rfl, hx, hy⟩ := dpall2 hv
  refine ⟨_, (pss_cons (ps_set (i := 2) sc_Lcovers.nd rfl (.inl rfl) (pe_or (pe_cmpR (kEqD (K := K) rfl hr.units) (pe_ix (ixT (K := K) rfl) (pv 0) pe_int (fun _ _ => rfl)) (pe_tup pa_nil) (nomark _)) (pe_one (pe_and (pe_cmpR (kNeD (K := K) rfl hr.units) (pe_ix (ixT (K := K) rfl) (pv 1) pe_int (fun _ _ => rfl)) (pe_tup pa_nil) (nomark _)) (pe_one (pe_cmpR op_le (pe_ix (ixT (K := K) rfl) (pe_ix (ixT (K := K) rfl) (pv 0) pe_int (fun _ _ => rfl)) pe_int (fun _ _ => rfl)) (pe_ix (ixT (K := K) rfl) (pe_ix (ixT (K := K) rfl) (pv 1) pe_int (fun _ _ => rfl)) pe_int (fun _ _ => rfl)) (nomark _)))))))
    (pss_one (ps_ret (pe_and (pv 2) (pe_one (pe_or (pe_cmpR (kEqD (K := K) rfl hr.units) (pe_ix (ixT (K := K) rfl) (pv 0) pe_int (fun _ _ => rfl)) (pe_tup pa_nil) (nomark _)) (pe_one (pe_and (pe_cmpR (kNeD (K := K) rfl hr.units) (pe_ix (ixT (K := K) rfl) (pv 1) pe_int (fun _ _ => rfl)) (pe_tup pa_nil) (nomark _)) (pe_one (pe_cmpR op_le (pe_ix (ixT (K := K) rfl) (pe_ix (ixT (K := K) rfl) (pv 1) pe_int (fun _ _ => rfl)) pe_int (fun _ _ => rfl)) (pe_ix (ixT (K := K) rfl) (pe_ix (ixT (K := K) rfl) (pv 0) pe_int (fun _ _ => rfl)) pe_int (fun _ _ => rfl)) (nomark _))))))))))), ?_⟩
  have i0 : ∀ {σ : L2.St} {G1 : Hp} {n : Nat} {v : V} {r : Span}, σ[n]? = some (some v) → Dp K G1 v (spanD r) → EvD .no K (tOp (rIxT K) (tVar n) (tC (.int 0))) σ G1 (endD r.1) := fun h0 h => evd_ixT (ds := [endD _, endD _]) (var_ h0 h) evd_int rfl
  have i1 : ∀ {σ : L2.St} {G1 : Hp} {n : Nat} {v : V} {r : Span}, σ[n]? = some (some v) → Dp K G1 v (spanD r) → EvD .no K (tOp (rIxT K) (tVar n) (tC (.int 1))) σ G1 (endD r.2) := fun h0 h => evd_ixT (ds := [endD _, endD _]) (var_ h0 h) evd_int rfl
  rw [cov_eq] at q
  obtain ⟨t1, t2⟩ := t
  obtain ⟨s1, s2⟩ := s
  have c1 : ∀ {σ : L2.St}, σ[0]? = some (some x) → σ[1]? = some (some y) → EvD .no K (tOrV (tOp (rEqD K) (tOp (rIxT K) (tVar 0) (tC (V.int 0))) (tTup tNil))
        (tAndV (tOp (rNeD K) (tOp (rIxT K) (tVar 1) (tC (V.int 0))) (tTup tNil))
          (tOp (rI0 fun i j => V.bl (decide (i ≤ j)))
            (tOp (rIxT K) (tOp (rIxT K) (tVar 0) (tC (V.int 0))) (tC (V.int 0)))
            (tOp (rIxT K) (tOp (rIxT K) (tVar 1) (tC (V.int 0))) (tC (V.int 0)))))) σ G (.bool (lowC t1 s1)) := by
    intro σ h0 h1
    have u1 : ∀ e : Option Int, PyData.bool (PyData.eqv (endD e) (.tuple [])) = .bool e.isNone := fun e => by rw [endD_unit]
    have u2 : ∀ e : Option Int, PyData.bool (!PyData.eqv (endD e) (.tuple [])) = .bool e.isSome := fun e => by rw [endD_unit]; cases e <;> rfl
    cases t1 with
    | none => exact evd_or_t ((eqD_ (i0 h0 hx) (evd_tup (ds := []) eva_nil (by decide)) (endD_shaped _) unit_shaped (u1 _)))
    | some a =>
      refine evd_or_f (eqD_ (i0 h0 hx) (evd_tup (ds := []) eva_nil (by decide)) (endD_shaped _) unit_shaped (u1 _)) ?_
      cases s1 with
      | none => exact evd_and_f (neD_ (i0 h1 hy) (evd_tup (ds := []) eva_nil (by decide)) (endD_shaped _) unit_shaped (u2 _))
      | some b => exact evd_and_t (neD_ (i0 h1 hy) (evd_tup (ds := []) eva_nil (by decide)) (endD_shaped _) unit_shaped (u2 _)) (intB_ (evd_ixT (ds := [.int a]) (i0 h0 hx) evd_int rfl) (evd_ixT (ds := [.int b]) (i0 h1 hy) evd_int rfl) rfl)
  refine st_set fr (c1 (by rfl) (by rfl)) fun v1 H1 G1 e1 p1 => ?_
  rw [dp_bl p1]
  walk_at "nx"
  have hx1 := dsame hx e1.gg
  have hy1 := dsame hy e1.gg
  have u1 : ∀ e : Option Int, PyData.bool (PyData.eqv (endD e) (.tuple [])) = .bool e.isNone := fun e => by rw [endD_unit]
  have u2 : ∀ e : Option Int, PyData.bool (!PyData.eqv (endD e) (.tuple [])) = .bool e.isSome := fun e => by rw [endD_unit]; cases e <;> rfl
  refine st_ret e1.fr (evd_and (var_ (by rfl) (Dp.bl _)) fun _ => ?_) (exq q e1)
  cases t2 with
  | none => exact evd_or_t ((eqD_ (i1 (by rfl) hx1) (evd_tup (ds := []) eva_nil (by decide)) (endD_shaped _) unit_shaped (u1 _)))
  | some a =>
    refine evd_or_f (eqD_ (i1 (by rfl) hx1) (evd_tup (ds := []) eva_nil (by decide)) (endD_shaped _) unit_shaped (u1 _)) ?_
    cases s2 with
    | none => exact evd_and_f (neD_ (i1 (by rfl) hy1) (evd_tup (ds := []) eva_nil (by decide)) (endD_shaped _) unit_shaped (u2 _))
    | some b => exact evd_and_t (neD_ (i1 (by rfl) hy1) (evd_tup (ds := []) eva_nil (by decide)) (endD_shaped _) unit_shaped (u2 _)) (intB_ (evd_ixT (ds := [.int b]) (i1 (by rfl) hy1) evd_int rfl) (evd_ixT (ds := [.int a]) (i1 (by rfl) hx1) evd_int rfl) rfl)
end
end Fm
set_option maxHeartbeats 4000000
/-! FmLJ: the law's merged stretches. -/
namespace Fm
open PySem PySem.Spec PyProof.Rows L2
local macro_rules | `(tactic| walk_at "nx") => `(tactic| try dsimp only [tSeq, tNext])
section
variable {P : Program} {w : World} {K : PySem.W.Frag} {mg : Str → Option Value} {base : Heap}
def R_Lmerged : List PyData → PyData → Prop := fun ds d => ∃ ss : List Span, ss.length ≤ 10000 ∧ (∀ s ∈ ss, hasNum s.1 s.2 = true) ∧ ds = [.list (ss.map spanD)] ∧ d = .tuple ((formedS ss).map spanD)
theorem ok_Lmerged (Z : Zs mg) (A : At K mg "_law_merged" s_Lmerged) : Def P w K mg base 1 "_law_merged" ["_law_stretches"] (FnR K 1 R_Lmerged) := by
  refine def_of A sc_Lmerged (fun _ _ _ _ _ _ us hl => match us, hl with | [_], _ => rfl) (fun vs H Q E h => h.len) fun f cdv A outer s H vs Q E hr h => ?_
  obtain ⟨ds, d, G, hn, ⟨ss, hlen, hnum, rfl, rfl⟩, fr, hv, q⟩ := h.open
  obtain ⟨x, rfl, hx⟩ := dpall1 hv
  refine ⟨_, (pss_cons (ps_set (i := 1) sc_Lmerged.nd rfl (.inl rfl) (pe_lst pa_nil))
    (pss_cons (ps_for PassesOwn.never rfl (kPiL (K := K) rfl (pe_callB (kSortD (K := K) rfl hr.units) (by rfl) Z.sorted bt_sorted (pa_cons (pv 0) pa_nil))) (kPgTup (K := K) (n := 2) rfl rfl (pgs_cons (pg_name (i := 2) sc_Lmerged.nd rfl (.inl rfl)) (pgs_cons (pg_name (i := 3) sc_Lmerged.nd rfl (.inl rfl)) pgs_nil))) (pss_one (ps_if (PW.pt (pw_and (pt_cmpR (kNeD (K := K) rfl hr.units) (pv 1) (pe_lst pa_nil) (nomark _)) (pw_and1 (PW.pt (pw_or (pt_cmpR (kEqD (K := K) rfl hr.units) (pe_ix (ixT (K := K) rfl) (pe_ix (ixL (K := K) rfl) (pv 1) (pe_un un_neg pe_int) (fun _ _ => rfl)) pe_int (fun _ _ => rfl)) (pe_tup pa_nil) (nomark _)) (pw_or (pt_cmpR (kEqD (K := K) rfl hr.units) (pv 2) (pe_tup pa_nil) (nomark _)) (pw_or1 (pt_cmpR op_le (pe_ix (ixT (K := K) rfl) (pv 2) pe_int (fun _ _ => rfl)) (pe_op op_add (pe_ix (ixT (K := K) rfl) (pe_ix (ixT (K := K) rfl) (pe_ix (ixL (K := K) rfl) (pv 1) (pe_un un_neg pe_int) (fun _ _ => rfl)) pe_int (fun _ _ => rfl)) pe_int (fun _ _ => rfl)) pe_int) (nomark _))))))))) (pss_cons (ps_asg (kBm0 (K := K) rfl PySem.F.plainAttrs_list PySem.F.slot_list_pop PySem.F.type_list_pop mt_pop (pv 1)) (kPgTup (K := K) (n := 2) rfl rfl (pgs_cons (pg_name (i := 4) sc_Lmerged.nd rfl (.inl rfl)) (pgs_cons (pg_name (i := 5) sc_Lmerged.nd rfl (.inl rfl)) pgs_nil))))
        (pss_one (ps_if (PW.pt (pw_or (pt_cmpR (kEqD (K := K) rfl hr.units) (pv 5) (pe_tup pa_nil) (nomark _)) (pw_or1 (pt_cmpR (kEqD (K := K) rfl hr.units) (pv 3) (pe_tup pa_nil) (nomark _))))) (pss_one (ps_expr (kBm (K := K) rfl PySem.F.plainAttrs_list PySem.F.slot_list_append PySem.F.type_list_append mt_append (pv 1) (pa_cons (pe_tup (pa_cons (pv 4) (pa_cons (pe_tup pa_nil) pa_nil))) pa_nil)))) (pss_one (ps_expr (kBm (K := K) rfl PySem.F.plainAttrs_list PySem.F.slot_list_append PySem.F.type_list_append mt_append (pv 1) (pa_cons (pe_tup (pa_cons (pv 4) (pa_cons (pe_callB (kMaxD (K := K) rfl rfl hr.units) (by rfl) Z.max bt_max (pa_cons (pv 5) (pa_cons (pv 3) pa_nil))) pa_nil))) pa_nil))))))) (pss_one (ps_expr (kBm (K := K) rfl PySem.F.plainAttrs_list PySem.F.slot_list_append PySem.F.type_list_append mt_append (pv 1) (pa_cons (pe_tup (pa_cons (pv 2) (pa_cons (pv 3) pa_nil))) pa_nil)))))))
    (pss_one (ps_ret (pe_callTy (crTup (K := K) rfl) (by rfl) Z.tuple bt_tuple (pa_cons (pv 1) pa_nil)))))), ?_⟩
  refine st_new fr fun p hp e0 => ?_
  have l0 : Loc .no G (upd H p (.lst [])) p [] := Loc.new fr hp
  walk_at "nx"
  rw [formedS_all hnum] at q
  generalize hL : srtS ss = L at q
  have hLl : L.length ≤ 10000 := by rw [← hL]; exact Nat.le_trans (Nat.le_of_eq (List.length_mergeSort _)) hlen
  have u1 : ∀ e : Option Int, PyData.bool (PyData.eqv (endD e) (.tuple [])) = .bool e.isNone := fun e => by rw [endD_unit]
  refine for_ e0.fr (ito_listF (bs := L) (enc := spanD) (sortD_ (var_ (by rfl) hx) (srtb_spans (ss := ss) (by omega)) (by rw [srtS_data, hL]))) fun G1 H1 e1 => ?_
  have l1 := l0.ex e1
  refine ⟨fun i σ G' H' => (∃ acc, Lp .no G H G1 G' H' p acc ∧ DpAll K G' acc ((mergeS (L.take i)).map spanD)) ∧ ∃ a b c d, σ = [some x, some (.ref p), a, b, c, d], ⟨⟨[], ⟨e0.trans e1, Same.refl _, l1⟩, .nil⟩, _, _, _, _, rfl⟩, fun i σ G H ⟨⟨_, h, _⟩, _⟩ => ⟨h.gg, h.ex.fr.sub⟩, ?_, ?_⟩
  · rintro i φ y σ G2 H2 hi hy ⟨⟨acc, l2, ha⟩, a, b, c, d, rfl⟩
    rw [List.getElem?_map] at hi
    obtain ⟨s, hs, rfl⟩ := Option.map_eq_some_iff.mp hi
    refine g_pair hy l2.ex.fr.sub fun lo hi hlo hhi => ?_
    have hF := mergeS_take hs
    have hFl : (mergeS (L.take i)).length ≤ 10000 := Nat.le_trans (mergeS_len _ _ rfl) (Nat.le_trans (by rw [List.length_take]; omega) hLl)
    generalize mergeS (L.take i) = F at ha hF hFl
    have hacc : acc.length = F.length := by rw [dalen ha, List.length_map]
    have sn : Same G2 (upd G2 p (.lst acc)) := Same.new l2.loc.out
    have hf : Dp K (upd G2 p (.lst acc)) (.ref p) (.list (F.map spanD)) := .lst (.inl (.inl upd_same)) (dasame ha sn)
    have hlo' := dsame hlo sn
    refine st_ifR (B := fun c => c = (match F.getLast? with | none => false | some l => goesOn l.2 s.1)) (EvB.seen ?_ l2.loc l2.ex.fr) (fun tb H3 G3 e3 => ?_) (fun tb H3 G3 e3 => ?_)
    · rcases List.eq_nil_or_concat F with rfl | ⟨F', l, rfl⟩
      · refine evt_and_f (evt_test (neD_ (var_ (by rfl) hf) (evd_lst (ds := []) eva_nil (by decide)) (by decide) (by decide) ?_))
        rw [eqv_nil] <;> rfl
      · rw [List.concat_eq_append] at *
        rw [List.getLast?_concat]
        refine evt_and_t (evt_test (neD_ (var_ (by rfl) hf) (evd_lst (ds := []) eva_nil (by decide)) ((nz_spans _).shaped (by decide)) (by decide) ?_)) ?_
        · rw [eqv_nil]; simp
        · have hlast : EvD .no K (tOp (rIxT K) (tOp (rIxL K) (tVar 1) (tUn (rU fun i => V.int (-i)) (tC (V.int 1)))) (tC (V.int 1))) [some x, some (.ref p), some lo, some hi, c, d] (upd G2 p (.lst acc)) (endD l.2) := evd_ixT (ds := [endD l.1, endD l.2]) (evd_ixL (var_ (by rfl) hf) (neg_ evd_int rfl) (by rw [List.map_append]; exact at_last)) evd_int (by rfl)
          have hg : goesOn l.2 s.1 = (l.2.isNone || (s.1.isNone || goesOn l.2 s.1)) := by
            rcases l.2 with _ | h <;> rcases s.1 with _ | k <;> rfl
          refine EvT.to (b := l.2.isNone || (s.1.isNone || goesOn l.2 s.1)) ?_ hg.symm
          refine evt_or (evt_test (K := K) (eqD_ hlast (evd_tup (ds := []) eva_nil (by decide)) (endD_shaped _) unit_shaped (u1 _))) fun z1 => ?_
          refine evt_or (evt_test (K := K) (eqD_ (var_ (by rfl) hlo') (evd_tup (ds := []) eva_nil (by decide)) (endD_shaped _) unit_shaped (u1 _))) fun z2 => ?_
          rcases h1 : l.2 with _ | h
          · rw [h1] at z1; cases z1
          rcases h2 : s.1 with _ | k
          · rw [h2] at z2; cases z2
          rw [h1] at hlast
          rw [h2] at hlo'
          exact evt_test (K := K) (intB_ (evd_ixT (ds := [.int k]) (var_ (by rfl) hlo') evd_int rfl) (intI_ (evd_ixT (ds := [.int h]) hlast evd_int rfl) evd_int rfl) rfl)
    · rcases List.eq_nil_or_concat F with rfl | ⟨F', l, rfl⟩
      · cases tb
      · rw [List.concat_eq_append] at *
        rw [List.getLast?_concat] at tb
        have l3 := l2.step e3
        have ha3 := dasame ha e3.gg
        have hhi3 := dsame hhi e3.gg
        rw [List.map_append] at ha3
        obtain ⟨us, v, rfl, hu, hv3⟩ := dasplit ha3
        have hul : us.length ≤ 10000 := by rw [dalen hu, List.length_map]; rw [List.length_append, List.length_singleton] at hFl; omega
        walk_at "nx"
        refine run_pop l3.loc rfl (by rfl) ?_
        have l4 : Lp .no G H G1 G3 (upd H3 p (.lst us)) p us := l3.put hp
        generalize upd H3 p (.lst us) = H4 at l4 ⊢
        refine g_pair hv3 l4.ex.fr.sub fun fi la hfi hla => ?_
        walk_at "nx"
        have e5 : mergeS (L.take (i + 1)) = F' ++ [(l.1, topH l.2 s.2)] := by
          rw [hF]
          unfold stepM
          rw [List.getLast?_concat]
          dsimp only
          rw [if_pos tb.symm, List.dropLast_concat]
        refine st_if (b := l.2.isNone || s.2.isNone) l4.ex.fr (evt_or (evt_test (K := K) (eqD_ (var_ (by rfl) hla) (evd_tup (ds := []) eva_nil (by decide)) (endD_shaped _) unit_shaped (u1 _))) fun _ => evt_test (K := K) (eqD_ (var_ (by rfl) hhi3) (evd_tup (ds := []) eva_nil (by decide)) (endD_shaped _) unit_shaped (u1 _))) (fun c5 H5 G5 e5' => ?_) fun c5 H5 G5 e5' => ?_
        · have l5 := l4.step e5'
          have et : topH l.2 s.2 = none := by
            rcases h1 : l.2 with _ | h <;> rcases h2 : s.2 with _ | k <;> first | rfl | (rw [h1, h2] at c5; cases c5)
          refine st_append (K := K) (Φ := PD K (spanD (l.1, topH l.2 s.2))) l5.ex.fr l5.loc (by omega) (by rfl) ?_ fun y6 H6 G6 e6 p6 fr6 l6 => ?_
          · rw [et]
            exact evd_tup (ds := [endD l.1, .tuple []]) (eva_cons (var_ (by rfl) (dsame hfi e5'.gg)) (eva_cons (evd_tup (ds := []) eva_nil (by decide)) eva_nil)) (by simp)
          · refine ⟨G6, ⟨_, (l5.step e6).put hp, ?_⟩, _, _, _, _, rfl⟩
            rw [e5, List.map_append]
            exact daapp (dasame hu (e5'.gg.trans e6.gg)) (daone p6)
        · have l5 := l4.step e5'
          obtain ⟨m, h1⟩ : ∃ m, l.2 = some m := by
            rcases h1 : l.2 with _ | h
            · rw [h1] at c5; cases c5
            · exact ⟨h, rfl⟩
          obtain ⟨k, h2⟩ : ∃ k, s.2 = some k := by
            rcases h2 : s.2 with _ | h
            · rw [h1, h2] at c5; cases c5
            · exact ⟨h, rfl⟩
          refine st_append (K := K) (Φ := PD K (spanD (l.1, topH l.2 s.2))) l5.ex.fr l5.loc (by omega) (by rfl) ?_ fun y6 H6 G6 e6 p6 fr6 l6 => ?_
          · refine evd_tup (ds := [endD l.1, endD (topH l.2 s.2)]) (eva_cons (var_ (by rfl) (dsame hfi e5'.gg)) (eva_cons (maxD_ (var_ (by rfl) (dsame hla e5'.gg)) (var_ (by rfl) (dsame hhi3 e5'.gg)) (endD_cmp _ _) ?_) eva_nil)) (by simp)
            rw [maxE_eq, h1, h2]
            rfl
          · refine ⟨G6, ⟨_, (l5.step e6).put hp, ?_⟩, _, _, _, _, rfl⟩
            rw [e5, List.map_append]
            exact daapp (dasame hu (e5'.gg.trans e6.gg)) (daone p6)
    · have hst : stepM F s = F ++ [s] := by
        unfold stepM
        split
        · rename_i h
          rw [List.getLast?_eq_none_iff.mp h] <;> rfl
        · rename_i l h
          rw [h] at tb
          dsimp only at tb
          rw [if_neg (by rw [← tb]; decide)]
      refine st_append (Φ := PD K (spanD s)) e3.fr (l2.step e3).loc (by omega) (by rfl) (evd_tup (ds := [endD s.1, endD s.2]) (eva_cons (var_ (by rfl) (dsame hlo e3.gg)) (eva_cons (var_ (by rfl) (dsame hhi e3.gg)) eva_nil)) (by simp)) fun y H4 G4 e4 py fr4 l4 => ?_
      refine ⟨G4, ⟨_, ((l2.step e3).step e4).put hp, ?_⟩, _, _, _, _, rfl⟩
      rw [hF, hst, List.map_append]
      exact daapp (dasame ha (e3.trans e4).gg) (daone py)
  · rintro σ G2 H2 ⟨⟨acc, l2, ha⟩, a, b, c, d, rfl⟩
    rw [List.length_map, List.take_length] at ha
    have e5 := l2.loc.took l2.ex hp
    walk_at "nx"
    exact st_ret e5.fr (tupLD_ (var_ (by rfl) (Dp.lst (.inl (.inl upd_same)) (dasame ha (Same.new l2.loc.out))))) (exq q e5)
end
end Fm
set_option maxHeartbeats 4000000
/-! FmLK: the law's lies, outer. -/
namespace Fm
open PySem PySem.Spec PyProof.Rows L2
local macro_rules | `(tactic| walk_at "nx") => `(tactic| try dsimp only [tSeq, tNext])
/-- for x in ..: if t: return False -/
theorem for_look {σ : L2.St} {n : Nat} {a0 : Option V} {G H : Hp} {wi : TI} {β : Type} {bs : List β} {Θ : β → Pr} {pr : β → Bool} {tt : TT} {D : Ends} (h0 : σ = σ.set n a0) (fr : Fr .no G H) (hi : ItOk .no wi σ G (bs.map Θ))
    (step : ∀ b ∈ bs, ∀ x G1, Same G G1 → (Θ b).p G1 x → EvT .no tt (σ.set n (some x)) G1 (!pr b)) (no : ∀ H1 G1, Ex .no G G1 H H1 → bs.all pr = false → D.rt (.bl false) H1)
    (yes : ∀ a H1 G1, Ex .no G G1 H H1 → bs.all pr = true → D.nx (σ.set n a) H1) : tFor wi (gName n) (tIfS tt (tRet (tC (.bl false))) tNext) D σ H := by
  refine for_ fr hi fun G1 H1 e1 => ?_
  refine ⟨fun i σ' G' H' => Ex .no G1 G' H1 H' ∧ (∀ z ∈ bs.take i, pr z = true) ∧ ∃ a, σ' = σ.set n a, ⟨Ex.refl e1.fr, (fun z hz => by rw [List.take_zero] at hz; cases hz), a0, h0⟩, fun i σ G H h => ⟨h.1.gg, h.1.fr.sub⟩, ?_, ?_⟩
  · rintro i φ x σ' G2 H2 hi2 hx ⟨e2, tk, a, rfl⟩
    rw [List.getElem?_map] at hi2
    obtain ⟨b, hb, rfl⟩ := Option.map_eq_some_iff.mp hi2
    have hm := List.mem_of_getElem? hb
    show tIfS tt (tRet (tC (.bl false))) tNext _ ((σ.set n a).set n (some x)) H2
    rw [List.set_set]
    refine st_if (b := !pr b) e2.fr (step b hm x G2 (e1.gg.trans e2.gg) hx) (fun c H3 G3 e3 => ?_) fun c H3 G3 e3 => ?_
    · refine no H3 G3 ((e1.trans e2).trans e3) ?_
      rw [List.all_eq_false]
      exact ⟨b, hm, fun z => by rw [z] at c; cases c⟩
    · refine ⟨G3, e2.trans e3, fun z hz => ?_, _, rfl⟩
      rw [List.take_add_one, hb] at hz
      rcases List.mem_append.mp hz with hz | hz
      · exact tk z hz
      · rw [List.mem_singleton.mp hz]
        cases h : pr b with
        | true => rfl
        | false => rw [h] at c; cases c
  · rintro σ' G2 H2 ⟨e2, tk, a, rfl⟩
    rw [List.length_map, List.take_length] at tk
    exact yes a H2 G2 (e1.trans e2) (List.all_eq_true.mpr tk)
section
variable {P : Program} {w : World} {K : PySem.W.Frag} {mg : Str → Option Value} {base : Heap}
def S_Llies (K : PySem.W.Frag) (n : Nat) : Ow → List Pr → Pr → Prop := fun o Φs Ψ => o = .no ∧ ∃ W U, ∃ a b : Kd n, WebIn W ∧ UpsOf W U ∧ KOk (inW W) n a ∧ KOk (inW W) n b ∧ Φs = [PD K (kindD n a), PD K (kindD n b), PDic U] ∧ Ψ = PD K (.bool (liesK (below W) n a b))
theorem ok_Llies_step {n k : Nat} (hn : n ≤ 20) (hk : 1 ≤ k) (Z : Zs mg) (D_Lcovers : Def P w K mg base 1 "_law_covers" ["_law_one", "_law_other"] (FnR K 2 R_Lcovers)) (D_Llies : Def P w K mg base k "_law_lies" ["_law_one", "_law_other", "_law_ups_here"] (Fn (S_Llies K n)))
    (A : At K mg "_law_lies" s_Llies) : Def P w K mg base (k + 1) "_law_lies" ["_law_one", "_law_other", "_law_ups_here"] (Fn (S_Llies K (n + 1))) := by
  refine def_of A sc_Llies (fun _ _ _ _ _ _ us hl => match us, hl with | [_, _, _], _ => rfl) (fun vs H Q E h => Fn.len (fun o Φs Ψ ⟨_, _, _, _, _, _, _, _, _, h3, _⟩ => by rw [h3] <;> rfl) h) fun f cdv A outer s H vs Q E hr h => ?_
  obtain ⟨_, _, _, G, ⟨rfl, W, U, ka, kb, hW, hU, oka, okb, rfl, rfl⟩, fr, hv, q⟩ := h
  obtain ⟨x, y, z, rfl, hx, hy, hz⟩ := allp3 hv
  refine ⟨_, (pss_cons (ps_if (PW.pt (pw_or (pt_val (pe_ix (ixT (K := K) rfl) (pv 0) pe_int (fun _ _ => rfl))) (pw_or1 (pt_val (pe_ix (ixT (K := K) rfl) (pv 1) pe_int (fun _ _ => rfl)))))) (pss_one (ps_ret (pe_ix (ixT (K := K) rfl) (pv 1) pe_int (fun _ _ => rfl)))) pss_nil)
    (pss_cons (ps_for PassesOwn.never rfl (kPiT (K := K) rfl (pe_ix (ixT (K := K) rfl) (pv 0) pe_int (fun _ _ => rfl))) (pg_name (i := 3) sc_Llies.nd rfl (.inr rfl)) (pss_one (ps_if (pt_cmpR (kEqD (K := K) rfl hr.units) (pe_lc (own := [("_law_top", 6)]) (g := gName 6) rfl sc_Llies.nd (kPiT (K := K) rfl (pe_ix (ixT (K := K) rfl) (pv 1) pe_int (fun _ _ => rfl))) (blkOk_by (N := n_Llies) (sc := (defScope s_Llies)) (by decide +kernel)) (fun _ _ _ _ _ => (pg_name (i := 6) sc_Llies.nd rfl (.inl rfl))) (fun _ _ _ _ _ => (pts_one (pt_cmpR (kIn (K := K) rfl) (pv 6) (pe_dget (hu_of hr) (pv 2) (pv 3) (fun _ _ => rfl)) (by rfl)))) (fun _ _ _ _ _ => (pv 6))) (pe_lst pa_nil) (nomark _)) (pss_one (ps_ret pe_bl)) pss_nil)))
    (pss_cons (ps_for PassesOwn.never rfl (kPiT (K := K) rfl (pe_ix (ixT (K := K) rfl) (pv 0) pe_int (fun _ _ => rfl))) (pg_name (i := 4) sc_Llies.nd rfl (.inr rfl)) (pss_one (ps_if (pt_cmpR (kEqD (K := K) rfl hr.units) (pe_lc (own := [("_law_some", 7)]) (g := gName 7) rfl sc_Llies.nd (kPiT (K := K) rfl (pe_ix (ixT (K := K) rfl) (pv 1) pe_int (fun _ _ => rfl))) (blkOk_by (N := n_Llies) (sc := (defScope s_Llies)) (by decide +kernel)) (fun _ _ _ _ _ => (pg_name (i := 7) sc_Llies.nd rfl (.inl rfl))) (fun _ _ _ _ _ => (pts_one (pt_val (pe_def D_Lcovers hr (by omega) (by rfl) (pa_cons (pv 7) (pa_cons (pv 4) pa_nil)))))) (fun _ _ _ _ _ => (pv 7))) (pe_lst pa_nil) (nomark _)) (pss_one (ps_ret pe_bl)) pss_nil)))
    (pss_cons (ps_for PassesOwn.never rfl (kPiT (K := K) rfl (pe_ix (ixT (K := K) rfl) (pv 0) pe_int (fun _ _ => rfl))) (pg_name (i := 5) sc_Llies.nd rfl (.inr rfl)) (pss_one (ps_if (pt_cmpR (kEqD (K := K) rfl hr.units) (pe_lc (own := [("_law_some", 7)]) (g := gName 7) rfl sc_Llies.nd (kPiT (K := K) rfl (pe_ix (ixT (K := K) rfl) (pv 1) pe_int (fun _ _ => rfl))) (blkOk_by (N := n_Llies) (sc := (defScope s_Llies)) (by decide +kernel)) (fun _ _ _ _ _ => (pg_name (i := 7) sc_Llies.nd rfl (.inl rfl))) (fun _ _ _ _ _ => (pts_one (pt_val (pe_def D_Llies hr (by omega) (by rfl) (pa_cons (pv 5) (pa_cons (pv 7) (pa_cons (pv 2) pa_nil))))))) (fun _ _ _ _ _ => (pv 7))) (pe_lst pa_nil) (nomark _)) (pss_one (ps_ret pe_bl)) pss_nil)))
    (pss_one (ps_ret pe_bl)))))), ?_⟩
  match ka, kb, oka, okb with
  | .any, .any, _, _ =>
    rw [kindD_any] at hx hy
    refine st_yes fr (evt_or_t (evt_B (K := K) (evd_ixT (ds := [.bool true, .tuple [], .tuple [], .tuple []]) (var_ (by rfl) hx) evd_int rfl))) fun H1 G1 e1 => ?_
    exact st_ret e1.fr (evd_ixT (ds := [.bool true, .tuple [], .tuple [], .tuple []]) (var_ (by rfl) (dsame hy e1.gg)) evd_int rfl) (exq q e1)
  | .any, .mk ns' ss' is', _, _ =>
    rw [kindD_any] at hx
    rw [kindD_mk] at hy
    refine st_yes fr (evt_or_t (evt_B (K := K) (evd_ixT (ds := [.bool true, .tuple [], .tuple [], .tuple []]) (var_ (by rfl) hx) evd_int rfl))) fun H1 G1 e1 => ?_
    exact st_ret e1.fr (evd_ixT (ds := [.bool false, .tuple (ns'.map .str), .tuple (ss'.map spanD), .tuple (is'.map (kindD n))]) (var_ (by rfl) (dsame hy e1.gg)) evd_int rfl) (exq q e1)
  | .mk ns ss is, .any, _, _ =>
    rw [kindD_any] at hy
    rw [kindD_mk] at hx
    refine st_yes fr (evt_or_f (evt_B (K := K) (evd_ixT (ds := [.bool false, .tuple (ns.map .str), .tuple (ss.map spanD), .tuple (is.map (kindD n))]) (var_ (by rfl) hx) evd_int rfl)) (evt_B (K := K) (evd_ixT (ds := [.bool true, .tuple [], .tuple [], .tuple []]) (var_ (by rfl) hy) evd_int rfl))) fun H1 G1 e1 => ?_
    exact st_ret e1.fr (evd_ixT (ds := [.bool true, .tuple [], .tuple [], .tuple []]) (var_ (by rfl) (dsame hy e1.gg)) evd_int rfl) (exq q e1)
  | .mk ns ss is, .mk ns' ss' is', oka, okb =>
    obtain ⟨a1, a2, a3, a4, a5⟩ := oka.mk
    obtain ⟨b1, b2, b3, b4, b5⟩ := okb.mk
    rw [kindD_mk] at hx hy
    have hlies : liesK (below W) (n + 1) (.mk ns ss is) (.mk ns' ss' is') = (nameIn (below W) ns ns' && ((ss.all fun s => ss'.any fun t => covB t s) && is.all fun x => is'.any fun y => liesK (below W) n x y)) := rfl
    rw [hlies] at q
    have ix : ∀ {σ : L2.St} {G1 : Hp} {ns : List Str} {ss : List Span} {is : List (Kd n)} {v : V} {m : Nat} {i : Int} {d : PyData}, σ[m]? = some (some v) → Dp K G1 v (.tuple [.bool false, .tuple (ns.map .str), .tuple (ss.map spanD), .tuple (is.map (kindD n))]) → atI [.bool false, .tuple (ns.map .str), .tuple (ss.map spanD), .tuple (is.map (kindD n))] i = some d → EvD .no K (tOp (rIxT K) (tVar m) (tC (.int i))) σ G1 d := fun h0 h e => evd_ixT (var_ h0 h) evd_int e
    refine st_no fr (evt_or_f (evt_B (K := K) (ix (by rfl) hx rfl)) (evt_B (K := K) (ix (by rfl) hy rfl))) fun H1 G1 e1 => ?_
    walk_at "nx"
    have hx1 := dsame hx e1.gg
    have hy1 := dsame hy e1.gg
    have hz1 := (PDic U).mono e1.gg hz
    refine for_look (a0 := none) (bs := ns) (Θ := fun x => PD K (.str x)) (pr := fun x => ns'.any fun y => below W x y) (by rfl) e1.fr (ito_tupF (enc := .str) (ix (by rfl) hx1 rfl)) (fun b hb v G2 s2 hv2 => eqnil_ (f := .str) (lcf1 (bs := ns') (Θ := fun o => PD K (.str o)) (by decide) (ito_tupF (enc := .str) (ix (by rfl) (dsame hy1 s2) rfl)) (by omega) fun o ho v3 G3 s3 hv3 => ⟨inUps_ hU (a1 b hb) (var_ (by rfl) hv3) (var_ (by rfl) ((PDic U).mono (s2.trans s3) hz1)) (var_ (by rfl) (dsame hv2 s3)), fun _ => var_ (by rfl) hv3⟩) ((nz_strs fun z hz => inW_ok hW z (b1 z (List.mem_filter.mp hz).1)).shaped (by decide))) (fun H2 G2 e2 hf => ?_) fun a H2 G2 e2 hT => ?_
    · rw [show nameIn (below W) ns ns' = false from hf] at q
      exact q _ _ _ (e1.trans e2) (Dp.bl _)
    rw [show nameIn (below W) ns ns' = true from hT, Bool.true_and] at q
    have hx2 := dsame hx1 e2.gg
    have hy2 := dsame hy1 e2.gg
    have hz2 := (PDic U).mono e2.gg hz1
    have e12 := e1.trans e2
    walk_at "nx"
    refine for_look (a0 := none) (bs := ss) (Θ := fun x => PD K (spanD x)) (pr := fun s => ss'.any fun t => covB t s) (by rfl) e2.fr (ito_tupF (enc := spanD) (ix (by rfl) hx2 rfl)) (fun b hb v G3 s3 hv3 => eqnil_ (f := spanD) (lcf1 (bs := ss') (Θ := fun o => PD K (spanD o)) (by decide) (ito_tupF (enc := spanD) (ix (by rfl) (dsame hy2 s3) rfl)) (by omega) fun o ho v4 G4 s4 hv4 => ⟨evt_B (K := K) (evd_call (ds := [spanD o, spanD b]) (eva_cons (var_ (by rfl) hv4) (eva_cons (var_ (by rfl) (dsame hv3 s4)) eva_nil)) (by rfl) ⟨o, b, rfl, rfl⟩), fun _ => var_ (by rfl) hv4⟩) ((nz_spans _).shaped (by decide))) (fun H3 G3 e3 hf => ?_) fun a' H3 G3 e3 hT => ?_
    · rw [hf] at q
      exact q _ _ _ (e12.trans e3) (Dp.bl _)
    rw [hT, Bool.true_and] at q
    have hx3 := dsame hx2 e3.gg
    have hy3 := dsame hy2 e3.gg
    have hz3 := (PDic U).mono e3.gg hz2
    have e13 := e12.trans e3
    walk_at "nx"
    refine for_look (a0 := none) (bs := is) (Θ := fun x => PD K (kindD n x)) (pr := fun x => is'.any fun y => liesK (below W) n x y) (by rfl) e3.fr (ito_tupF (enc := kindD n) (ix (by rfl) hx3 rfl)) (fun b hb v G4 s4 hv4 => eqnil_ (f := kindD n) (lcf1 (bs := is') (Θ := fun o => PD K (kindD n o)) (by decide) (ito_tupF (enc := kindD n) (ix (by rfl) (dsame hy3 s4) rfl)) (by omega) fun o ho v5 G5 s5 hv5 => ⟨evt_B (K := K) (ev_call (Φs := [PD K (kindD n b), PD K (kindD n o), PDic U]) (eva_cons (var_ (by rfl) (dsame hv4 s5)) (eva_cons (var_ (by rfl) hv5) (eva_cons (var_ (by rfl) ((PDic U).mono (s4.trans s5) hz3)) eva_nil))) ⟨rfl, W, U, b, o, hW, hU, a5 b hb, b5 o ho, rfl, rfl⟩ (.inl rfl)), fun _ => var_ (by rfl) hv5⟩) ((nz_kinds hW hn fun k hk => b5 k (List.mem_filter.mp hk).1).shaped (by decide))) (fun H4 G4 e4 hf => ?_) fun a'' H4 G4 e4 hT => ?_
    · rw [hf] at q
      exact q _ _ _ (e13.trans e4) (Dp.bl _)
    rw [hT] at q
    walk_at "nx"
    exact st_ret e4.fr evd_bl (exq q (e13.trans e4))
theorem ok_Lliess (Z : Zs mg) (D_Lcovers : Def P w K mg base 1 "_law_covers" ["_law_one", "_law_other"] (FnR K 2 R_Lcovers)) (A : At K mg "_law_lies" s_Llies) : ∀ n ≤ 20, Def P w K mg base (1 + n) "_law_lies" ["_law_one", "_law_other", "_law_ups_here"] (Fn (S_Llies K n))
  | 0, _ => def_vac A sc_Llies (fun _ _ _ _ _ _ us hl => match us, hl with | [_, _, _], _ => rfl) fun o Φs Ψ ⟨_, _, _, _, _, _, _, h, _⟩ => h
  | n + 1, h => ok_Llies_step (by omega) (Nat.le_add_right 1 n) Z D_Lcovers (ok_Lliess Z D_Lcovers A n (by omega)) A
end
end Fm
set_option maxHeartbeats 4000000
/-! FmLM: the law's outer ones. -/
namespace Fm
open PySem PySem.Spec PyProof.Rows L2
local macro_rules | `(tactic| walk_at "nx") => `(tactic| try dsimp only [tSeq, tNext])
section
variable {α : Type} [DecidableEq α]
/-- each once, the first one stays -/
def firsts (l : List α) : List α := l.foldl (fun u k => if k ∈ u then u else u ++ [k]) []
theorem firsts_snoc (l : List α) (k : α) : firsts (l ++ [k]) = if k ∈ firsts l then firsts l else firsts l ++ [k] := by
  unfold firsts
  rw [List.foldl_append]
  rfl
theorem firsts_take {l : List α} {i : Nat} {k : α} (h : l[i]? = some k) : firsts (l.take (i + 1)) = if k ∈ firsts (l.take i) then firsts (l.take i) else firsts (l.take i) ++ [k] := by
  rw [List.take_add_one, h]
  exact firsts_snoc _ _
structure Frs (l u : List α) : Prop where
  nd : u.Nodup
  mem : ∀ x, x ∈ u ↔ x ∈ l
  sub : u.Sublist l
theorem firsts_ok : ∀ (n : Nat) (l : List α), l.length = n → Frs l (firsts l)
  | 0, l, h => by
    rw [List.eq_nil_of_length_eq_zero h]
    exact ⟨List.nodup_nil, fun _ => Iff.rfl, List.Sublist.refl _⟩
  | n + 1, L, h => by
    obtain ⟨l, k, rfl⟩ : ∃ L' s, L = L' ++ [s] := by
      rcases List.eq_nil_or_concat L with e | ⟨L', s, e⟩
      · subst e; cases h
      · exact ⟨L', s, by rw [e, List.concat_eq_append]⟩
    rw [List.length_append, List.length_singleton] at h
    have ih := firsts_ok n l (by omega)
    rw [firsts_snoc]
    split
    · rename_i c
      refine ⟨ih.nd, fun x => ?_, ih.sub.trans (List.sublist_append_left _ _)⟩
      rw [List.mem_append, List.mem_singleton, ih.mem]
      exact ⟨.inl, fun z => z.elim id fun e => e ▸ (ih.mem k).mp c⟩
    · rename_i c
      refine ⟨List.nodup_append.mpr ⟨ih.nd, by simp, fun a ha b hb e => c (by rw [← List.mem_singleton.mp hb, ← e]; exact ha)⟩, fun x => ?_, ih.sub.append (List.Sublist.refl _)⟩
      rw [List.mem_append, List.mem_append, ih.mem]
theorem firsts_ss (E : Enc α) (l : List α) : firsts (E.srt l) = E.ss l := by
  have f := firsts_ok _ (E.srt l) rfl
  refine pw_unique (perm_of_mem f.nd (E.nd_ss l) fun x => ?_) (fun a _ b _ => E.anti) ((E.srt_pw l).sublist f.sub) (E.ss_pw l)
  rw [f.mem, E.mem_srt, E.mem_ss]
end
theorem notInD_ {o : Ow} {K : PySem.W.Frag} {σ : L2.St} {G : Hp} {ta tb : TE} {d : PyData} {ds : List PyData} {r : PyData} (h1 : EvD o K ta σ G d) (h2 : EvD o K tb σ G (.list ds)) (s1 : SeqAt.shaped d = true) (s2 : SeqAt.shaped (.list ds) = true) (q : PyData.bool (!ds.any fun z => PyData.eqv z d) = r) : EvD o K (tOp (rNotInD K) ta tb) σ G r := q ▸ ev_op h1 h2 fun G2 H2 u v _ f p1 p2 Q k =>
  ⟨d, ds, dsame p1 f.sub, dsame p2 f.sub, s1, s2, k _ _ _ (Ex.refl f) (Dp.bl _)⟩
theorem inD_ {o : Ow} {K : PySem.W.Frag} {σ : L2.St} {G : Hp} {ta tb : TE} {d : PyData} {ds : List PyData} {r : PyData} (h1 : EvD o K ta σ G d) (h2 : EvD o K tb σ G (.list ds)) (s1 : SeqAt.shaped d = true) (s2 : SeqAt.shaped (.list ds) = true) (q : PyData.bool (ds.any fun z => PyData.eqv z d) = r) : EvD o K (tOp (rInD K) ta tb) σ G r := q ▸ ev_op h1 h2 fun G2 H2 u v _ f p1 p2 Q k =>
  ⟨d, ds, dsame p1 f.sub, dsame p2 f.sub, s1, s2, k _ _ _ (Ex.refl f) (Dp.bl _)⟩
section
variable {P : Program} {w : World} {K : PySem.W.Frag} {mg : Str → Option Value} {base : Heap}
def S_Louter (K : PySem.W.Frag) (n : Nat) : Ow → List Pr → Pr → Prop := fun o Φs Ψ => o = .no ∧ ∃ W U, ∃ l : List (Kd n), WebIn W ∧ UpsOf W U ∧ (∀ k ∈ l, KOk (inW W) n k) ∧ l.length ≤ 12 ∧ Φs = [PD K (.list (l.map (kindD n))), PDic U] ∧ Ψ = PD K (.tuple ((outF (encK n) (liesK (below W) n) l).map (kindD n)))
theorem ok_Louter {n k : Nat} (hn : n ≤ 3) (Z : Zs mg) (D_Llies : Def P w K mg base k "_law_lies" ["_law_one", "_law_other", "_law_ups_here"] (Fn (S_Llies K n))) (A : At K mg "_law_outer" s_Louter) : Def P w K mg base (k + 1) "_law_outer" ["_law_some", "_law_ups_here"] (Fn (S_Louter K n)) := by
  refine def_of A sc_Louter (fun _ _ _ _ _ _ us hl => match us, hl with | [_, _], _ => rfl) (fun vs H Q E h => Fn.len (fun o Φs Ψ ⟨_, _, _, _, _, _, _, _, h3, _⟩ => by rw [h3] <;> rfl) h) fun f cdv A outer s H vs Q E hr h => ?_
  obtain ⟨_, _, _, G, ⟨rfl, W, U, l, hW, hU, hl, hlen, rfl, rfl⟩, fr, hv, q⟩ := h
  obtain ⟨x, y, rfl, hx, hy⟩ := allp2 hv
  refine ⟨_, (pss_cons (ps_set (i := 2) sc_Louter.nd rfl (.inl rfl) (pe_lst pa_nil))
    (pss_cons (ps_for PassesOwn.never rfl (kPiL (K := K) rfl (pe_callB (kSortD (K := K) rfl hr.units) (by rfl) Z.sorted bt_sorted (pa_cons (pv 0) pa_nil))) (pg_name (i := 3) sc_Louter.nd rfl (.inr rfl)) (pss_one (ps_if (pt_cmpR (kNotInD (K := K) rfl (u65 hr)) (pv 3) (pv 2) (by rfl)) (pss_one (ps_expr (kBm (K := K) rfl PySem.F.plainAttrs_list PySem.F.slot_list_append PySem.F.type_list_append mt_append (pv 2) (pa_cons (pv 3) pa_nil)))) pss_nil)))
    (pss_cons (ps_set (i := 4) sc_Louter.nd rfl (.inl rfl) (pe_lst pa_nil))
    (pss_cons (ps_for PassesOwn.never rfl (kPiL (K := K) rfl (pv 2)) (pg_name (i := 3) sc_Louter.nd rfl (.inr rfl)) (pss_one (ps_if (pt_cmpR (kEqD (K := K) rfl hr.units) (pe_lc (own := [("_law_other", 5)]) (g := gName 5) rfl sc_Louter.nd (kPiL (K := K) rfl (pv 2)) (blkOk_by (N := n_Louter) (sc := (defScope s_Louter)) (by decide +kernel)) (fun _ _ _ _ _ => (pg_name (i := 5) sc_Louter.nd rfl (.inl rfl))) (fun _ _ _ _ _ => (pts_one (PW.pt (pw_and (pt_cmpR (kNeD (K := K) rfl hr.units) (pv 5) (pv 3) (nomark _)) (pw_and1 (pt_val (pe_def D_Llies hr (by omega) (by rfl) (pa_cons (pv 3) (pa_cons (pv 5) (pa_cons (pv 1) pa_nil)))))))))) (fun _ _ _ _ _ => (pv 5))) (pe_lst pa_nil) (nomark _)) (pss_one (ps_expr (kBm (K := K) rfl PySem.F.plainAttrs_list PySem.F.slot_list_append PySem.F.type_list_append mt_append (pv 4) (pa_cons (pv 3) pa_nil)))) pss_nil)))
    (pss_one (ps_ret (pe_callTy (crTup (K := K) rfl) (by rfl) Z.tuple bt_tuple (pa_cons (pv 4) pa_nil)))))))), ?_⟩
  have hs := fun (x : Str) (h : inW W x) => inW_ok hW x h
  refine st_new fr fun p hp e0 => ?_
  have l0 : Loc .no G (upd H p (.lst [])) p [] := Loc.new fr hp
  generalize upd H p (.lst []) = H0 at e0 l0 ⊢
  walk_at "nx"
  generalize hS : (encK n).srt l = S
  have hSm : ∀ k ∈ S, KOk (inW W) n k := fun k hk => hl k ((encK n).mem_srt.mp (hS ▸ hk))
  have hSl : S.length ≤ 12 := by rw [← hS]; exact Nat.le_trans (Nat.le_of_eq ((encK n).srt_perm l).length_eq) hlen
  have hss : firsts S = (encK n).ss l := by rw [← hS]; exact firsts_ss _ l
  have hfm : ∀ i, ∀ k ∈ firsts (S.take i), KOk (inW W) n k := fun i k hk => hSm k (List.mem_of_mem_take (((firsts_ok _ _ rfl).mem k).mp hk))
  have hfl : ∀ i, (firsts (S.take i)).length ≤ 12 := fun i => by
    have := (firsts_ok _ (S.take i) rfl).sub.length_le
    rw [List.length_take] at this
    omega
  refine for_ e0.fr (ito_listF (bs := S) (enc := kindD n) (sortD_ (var_ (by rfl) hx) (srtb_kinds hs hn hl (by omega)) (by rw [← hS]; exact (encK n).srt_map l))) fun G1 H1 e1 => ?_
  refine ⟨fun i σ G' H' => (∃ acc, Lp .no G H G1 G' H' p acc ∧ DpAll K G' acc ((firsts (S.take i)).map (kindD n))) ∧ ∃ a b c, σ = [some x, some y, some (.ref p), a, b, c], ⟨⟨[], ⟨e0.trans e1, Same.refl _, l0.ex e1⟩, .nil⟩, _, _, _, rfl⟩, fun i σ G H ⟨⟨_, h, _⟩, _⟩ => ⟨h.gg, h.ex.fr.sub⟩, ?_, ?_⟩
  · rintro i φ u σ G2 H2 hi hu ⟨⟨acc, l2, ha⟩, a, b, c, rfl⟩
    rw [List.getElem?_map] at hi
    obtain ⟨kd, hkd, rfl⟩ := Option.map_eq_some_iff.mp hi
    have hok := hSm kd (List.mem_of_getElem? hkd)
    have hF := firsts_take hkd
    have hFm := hfm i
    have hFl := hfl i
    generalize firsts (S.take i) = F at ha hF hFm hFl
    have hacc : acc.length = F.length := by rw [dalen ha, List.length_map]
    have sn : Same G2 (upd G2 p (.lst acc)) := Same.new l2.loc.out
    have hf : Dp K (upd G2 p (.lst acc)) (.ref p) (.list (F.map (kindD n))) := .lst (.inl (.inl upd_same)) (dasame ha sn)
    have hany : (F.map (kindD n)).any (fun z => PyData.eqv z (kindD n kd)) = decide (kd ∈ F) := by
      rw [List.any_map, Bool.eq_iff_iff, List.any_eq_true, decide_eq_true_iff]
      constructor
      · rintro ⟨z, hz, e⟩
        have e : PyData.eqv (kindD n z) (kindD n kd) = true := e
        rw [kind_eqv (nm := inW W)] at e
        rw [← of_decide_eq_true e]; exact hz
      · intro h
        refine ⟨kd, h, ?_⟩
        show PyData.eqv (kindD n kd) (kindD n kd) = true
        rw [kind_eqv (nm := inW W)]
        exact decide_eq_true rfl
    refine st_ifR (B := fun c => c = !decide (kd ∈ F)) (EvB.seen (evt_test (K := K) (notInD_ (var_ (by rfl) (dsame hu sn)) (var_ (by rfl) hf) ((kind_nz hs n kd hok).shaped (by omega)) ((nz_kinds hW (by omega) hFm).shaped (by decide)) (by rw [hany]))) l2.loc l2.ex.fr) (fun tb H3 G3 e3 => ?_) (fun tb H3 G3 e3 => ?_)
    · have hno : kd ∉ F := fun z => by rw [decide_eq_true z] at tb; cases tb
      rw [if_neg hno] at hF
      refine st_append (K := K) (Φ := PD K (kindD n kd)) e3.fr (l2.step e3).loc (by omega) (by rfl) (var_ (by rfl) (dsame hu e3.gg)) fun y4 H4 G4 e4 py fr4 l4 => ?_
      refine ⟨G4, ⟨_, ((l2.step e3).step e4).put hp, ?_⟩, _, _, _, rfl⟩
      rw [hF, List.map_append]
      exact daapp (dasame ha (e3.trans e4).gg) (daone py)
    · have hyes : kd ∈ F := Decidable.byContradiction fun z => by rw [decide_eq_false z] at tb; cases tb
      rw [if_pos hyes] at hF
      walk_at "nx"
      refine ⟨G3, ⟨acc, l2.step e3, ?_⟩, _, _, _, rfl⟩
      rw [hF]
      exact dasame ha e3.gg
  · rintro σ G2 H2 ⟨⟨acc, l2, ha⟩, a, b, c, rfl⟩
    rw [List.length_map, List.take_length, hss] at ha
    have hul := hfl S.length
    rw [List.take_length, hss] at hul
    have hum : ∀ k ∈ (encK n).ss l, KOk (inW W) n k := fun k hk => hl k ((encK n).mem_ss.mp hk)
    have e5 := l2.loc.took l2.ex hp
    have hu5 : Dp K (upd G2 p (.lst acc)) (.ref p) (.list (((encK n).ss l).map (kindD n))) := .lst (.inl (.inl upd_same)) (dasame ha (Same.new l2.loc.out))
    have houtF : outF (encK n) (liesK (below W) n) l = ((encK n).ss l).filter (outB (liesK (below W) n) ((encK n).ss l)) := rfl
    rw [houtF] at q
    generalize (encK n).ss l = u at hu5 hul hum q
    generalize upd G2 p (.lst acc) = G5 at e5 hu5
    clear ha l2
    walk_at "nx"
    refine st_new e5.fr fun r hr1 e6 => ?_
    have r0 : H r = none := e5.none_back (fun z => z) hr1
    have l6 : Loc .no G5 (upd H2 r (.lst [])) r [] := Loc.new e5.fr hr1
    have E6 := e5.trans e6
    generalize upd H2 r (.lst []) = H6 at E6 l6 ⊢
    clear e6 hr1
    walk_at "nx"
    refine for_ E6.fr (ito_listF (bs := u) (enc := kindD n) (var_ (by rfl) hu5)) fun G7 H7 e7 => ?_
    refine ⟨fun i σ G' H' => (∃ acc, Lp .no G H G7 G' H' r acc ∧ DpAll K G' acc (((u.take i).filter (outB (liesK (below W) n) u)).map (kindD n))) ∧ ∃ a b, σ = [some x, some y, some (.ref p), a, some (.ref r), b], ⟨⟨[], ⟨E6.trans e7, Same.refl _, l6.ex e7⟩, .nil⟩, _, _, rfl⟩, fun i σ G H ⟨⟨_, h, _⟩, _⟩ => ⟨h.gg, h.ex.fr.sub⟩, ?_, ?_⟩
    · rintro i φ v σ G8 H8 hi hv8 ⟨⟨acc, l8, ha⟩, a, b, rfl⟩
      rw [List.getElem?_map] at hi
      obtain ⟨kd, hkd, rfl⟩ := Option.map_eq_some_iff.mp hi
      have hok := hum kd (List.mem_of_getElem? hkd)
      have hu8 := dsame hu5 (e7.gg.trans l8.gg)
      have hy8 := (PDic U).mono (l8.ex.gg) hy
      have hcut : ((u.take (i + 1)).filter (outB (liesK (below W) n) u)) = (u.take i).filter (outB (liesK (below W) n) u) ++ (if outB (liesK (below W) n) u kd = true then [kd] else []) := by
        rw [List.take_add_one, hkd, List.filter_append]
        congr 1
        show List.filter (outB (liesK (below W) n) u) [kd] = _
        split
        · rename_i h; rw [List.filter_cons_of_pos h]; rfl
        · rename_i h; rw [List.filter_cons_of_neg h]; rfl
      have hacc : acc.length < 100000 := by
        rw [dalen ha, List.length_map]
        have := List.length_filter_le (outB (liesK (below W) n) u) (u.take i)
        rw [List.length_take] at this
        omega
      refine st_if (b := outB (liesK (below W) n) u kd) l8.ex.fr (eqnil_ (l := u) (p := fun o => !decide (o = kd) && liesK (below W) n kd o) (f := kindD n) (lcf1 (bs := u) (Θ := fun o => PD K (kindD n o)) (by decide) (ito_listF (enc := kindD n) (var_ (by rfl) hu8)) (by omega) fun o ho v3 G3 s3 hv3 => ⟨evt_and (evt_test (K := K) (neD_ (var_ (by rfl) hv3) (var_ (by rfl) (dsame hv8 s3)) ((kind_nz hs n o (hum o ho)).shaped (by omega)) ((kind_nz hs n kd hok).shaped (by omega)) (by rw [kind_eqv (nm := inW W)]))) fun _ => evt_B (K := K) (ev_call (Φs := [PD K (kindD n kd), PD K (kindD n o), PDic U]) (eva_cons (var_ (by rfl) (dsame hv8 s3)) (eva_cons (var_ (by rfl) hv3) (eva_cons (var_ (by rfl) ((PDic U).mono s3 hy8)) eva_nil))) ⟨rfl, W, U, kd, o, hW, hU, hok, hum o ho, rfl, rfl⟩ (.inl rfl)), fun _ => var_ (by rfl) hv3⟩) ((nz_kinds hW (by omega) fun k hk => hum k (List.mem_filter.mp hk).1).shaped (by decide))) (fun c H9 G9 e9 => ?_) fun c H9 G9 e9 => ?_
      · refine st_append (K := K) (Φ := PD K (kindD n kd)) e9.fr (l8.step e9).loc hacc (by rfl) (var_ (by rfl) (dsame hv8 e9.gg)) fun v4 H4 G4 e4 p4 fr4 l4 => ?_
        refine ⟨G4, ⟨_, ((l8.step e9).step e4).put r0, ?_⟩, _, _, rfl⟩
        rw [hcut, if_pos c, List.map_append]
        exact daapp (dasame ha (e9.trans e4).gg) (daone p4)
      · walk_at "nx"
        refine ⟨G9, ⟨acc, l8.step e9, ?_⟩, _, _, rfl⟩
        rw [hcut, if_neg (by rw [c]; decide), List.append_nil]
        exact dasame ha e9.gg
    · rintro σ G8 H8 ⟨⟨acc, l8, ha⟩, a, b, rfl⟩
      rw [List.length_map, List.take_length] at ha
      have e9 := l8.loc.took l8.ex r0
      walk_at "nx"
      exact st_ret e9.fr (tupLD_ (var_ (by rfl) (Dp.lst (.inl (.inl upd_same)) (dasame ha (Same.new l8.loc.out))))) (exq q e9)
end
end Fm
set_option maxHeartbeats 4000000
/-! FmLN: the law's kind. -/
namespace Fm
open PySem PySem.Spec PyProof.Rows L2
local macro_rules | `(tactic| walk_at "nx") => `(tactic| try dsimp only [tSeq, tNext])
section
variable {α : Type}
def tagS : PF α → Str
  | .name _ => "name"
  | .none => "none"
  | .any => "any"
  | .span _ => "span"
  | .inner _ => "inner"
def restD (e : α → PyData) : PF α → List PyData
  | .name x => [.str x]
  | .none => []
  | .any => []
  | .span s => [endD s.1, endD s.2]
  | .inner r => [.list (r.map e)]
theorem part_tag (e : α → PyData) (p : PF α) : partDF e p = .tuple (.str (tagS p) :: restD e p) := by cases p <;> rfl
def oneD (e : α → PyData) (p : PF α) : PyData := (restD e p).headD .none
theorem names_of (e : α → PyData) : ∀ r : List (PF α), (r.filter fun p => decide (tagS p = "name")).map (oneD e) = (namesP r).map .str
  | [] => rfl
  | .name x :: r => by
    show PyData.str x :: _ = _
    rw [names_of e r]
    rfl
  | .none :: r => names_of e r
  | .any :: r => names_of e r
  | .span _ :: r => names_of e r
  | .inner _ :: r => names_of e r
theorem spans_of (e : α → PyData) : ∀ r : List (PF α), (r.filter fun p => decide (tagS p = "span")).map (fun p => PyData.tuple (restD e p)) = (spansP r).map spanD
  | [] => rfl
  | .span s :: r => by
    show PyData.tuple [endD s.1, endD s.2] :: _ = _
    rw [spans_of e r]
    rfl
  | .none :: r => spans_of e r
  | .any :: r => spans_of e r
  | .name _ :: r => spans_of e r
  | .inner _ :: r => spans_of e r
def innD {β : Type} (g : List α → β) (h : β → PyData) : PF α → PyData
  | .inner r => h (g r)
  | _ => .none
theorem inners_of {β : Type} (g : List α → β) (h : β → PyData) : ∀ r : List (PF α), (r.filter fun p => decide (tagS p = "inner")).map (innD g h) = ((innersP r).map g).map h
  | [] => rfl
  | .inner s :: r => by
    show h (g s) :: _ = _
    rw [inners_of g h r]
    rfl
  | .none :: r => inners_of g h r
  | .any :: r => inners_of g h r
  | .name _ :: r => inners_of g h r
  | .span _ :: r => inners_of g h r
theorem any_of (e : α → PyData) (r : List (PF α)) : ((r.map (partDF e)).any fun z => PyData.eqv z (.tuple [.str "any"])) = hasAny r := by
  unfold hasAny
  rw [List.any_map]
  refine any_same fun p _ => ?_
  cases p with
  | name x => simp [partDF, PyData.eqv, PyData.eqvAll]
  | none =>
    show (PyData.eqv (.str "none") (.str "any") && true) = false
    rw [show PyData.eqv (.str "none") (.str "any") = false by decide]
    rfl
  | any =>
    show (PyData.eqv (.str "any") (.str "any") && true) = true
    rw [show PyData.eqv (.str "any") (.str "any") = true by decide]
    rfl
  | span s => simp [partDF, PyData.eqv, PyData.eqvAll]
  | inner s => simp [partDF, PyData.eqv, PyData.eqvAll]
end
theorem at_first {d : PyData} {ds : List PyData} : atI (d :: ds) 0 = some d := by
  unfold atI ixN
  rw [if_pos (by decide), if_pos (by rw [List.length_cons]; omega)]
  rfl
theorem part_nz {nm : Str → Prop} (hs : ∀ x, nm x → PyData.strOk x = true) : ∀ (n : Nat) (p : Prt n), POk nm n p → Nz (2 * n + 1) (partD n p)
  | 0, p, _ => nomatch p
  | n + 1, p, h => by
    change PF (Prt n) at p
    show Nz _ (partDF (partD n) p)
    rw [part_tag]
    have htag : PyData.strOk (tagS (α := Prt n) p) = true := by
      have key : ∀ y ∈ (["name", "none", "any", "span", "inner"] : List Str), PyData.strOk y = true := by decide +kernel
      refine key _ ?_
      cases p <;> simp [tagS]
    refine (nz_tup (n := 2 * n + 2) fun d hd => ?_).mono (by omega)
    rcases List.mem_cons.mp hd with rfl | hd
    · exact nz_str htag
    match p, h with
    | .name x, h => rw [List.mem_singleton.mp hd]; exact nz_str (hs x h)
    | .none, _ => cases hd
    | .any, _ => cases hd
    | .span s, _ =>
      rcases List.mem_cons.mp hd with rfl | hd
      · exact (nz_end _).mono (by omega)
      · rw [List.mem_singleton.mp hd]; exact (nz_end _).mono (by omega)
    | .inner r, h =>
      rw [List.mem_singleton.mp hd]
      refine nz_list (n := 2 * n + 1) fun d hd => ?_
      obtain ⟨p', hp, rfl⟩ := List.mem_map.mp hd
      exact part_nz hs n p' (h.2.2 p' hp)
section
variable {P : Program} {w : World} {K : PySem.W.Frag} {mg : Str → Option Value} {base : Heap}
def S_Lkind (K : PySem.W.Frag) (n : Nat) : Ow → List Pr → Pr → Prop := fun o Φs Ψ => o = .no ∧ ∃ W U, ∃ r : List (Prt n), WebIn W ∧ UpsOf W U ∧ ROk (inW W) n r ∧ n ≤ 4 ∧ Φs = [PD K (.list (r.map (partD n))), PDic U] ∧ Ψ = PD K (kindD n (kindP (below W) n r))
theorem ok_Lkind_step {n k : Nat} (hk : 3 ≤ k) (Z : Zs mg) (D_Ltops : Def P w K mg base 1 "_law_tops" ["_law_names", "_law_ups_here"] (Fn (S_Ltops K))) (D_Lmerged : Def P w K mg base 1 "_law_merged" ["_law_stretches"] (FnR K 1 R_Lmerged)) (D_Louter : Def P w K mg base k "_law_outer" ["_law_some", "_law_ups_here"] (Fn (S_Louter K n))) (D_Lkind : Def P w K mg base k "_law_kind" ["_law_row", "_law_ups_here"] (Fn (S_Lkind K n)))
    (A : At K mg "_law_kind" s_Lkind) : Def P w K mg base (k + 1) "_law_kind" ["_law_row", "_law_ups_here"] (Fn (S_Lkind K (n + 1))) := by
  refine def_of A sc_Lkind (fun _ _ _ _ _ _ us hl => match us, hl with | [_, _], _ => rfl) (fun vs H Q E h => Fn.len (fun o Φs Ψ ⟨_, _, _, _, _, _, _, _, h3, _⟩ => by rw [h3] <;> rfl) h) fun f cdv A outer s H vs Q E hr h => ?_
  obtain ⟨_, _, _, G, ⟨rfl, W, U, r, hW, hU, hrow, hn4, rfl, rfl⟩, fr, hv, q⟩ := h
  obtain ⟨x, y, rfl, hx, hy⟩ := allp2 hv
  refine ⟨_, (pss_cons (ps_if (pt_cmpR (kInD (K := K) rfl (u65 hr)) (pe_tup (pa_cons pe_str pa_nil)) (pv 0) (by rfl)) (pss_one (ps_ret (pe_tup (pa_cons pe_bl (pa_cons (pe_tup pa_nil) (pa_cons (pe_tup pa_nil) (pa_cons (pe_tup pa_nil) pa_nil))))))) pss_nil)
    (pss_cons (ps_set (i := 2) sc_Lkind.nd rfl (.inl rfl) (pe_def D_Ltops hr (by omega) (by rfl) (pa_cons (pe_lc (own := [("_law_part_here", 5)]) (g := gName 5) rfl sc_Lkind.nd (kPiL (K := K) rfl (pv 0)) (blkOk_by (N := n_Lkind) (sc := (defScope s_Lkind)) (by decide +kernel)) (fun _ _ _ _ _ => (pg_name (i := 5) sc_Lkind.nd rfl (.inl rfl))) (fun _ _ _ _ _ => (pts_one (pt_cmpR op_eq (pe_ix (ixT (K := K) rfl) (pv 5) pe_int (fun _ _ => rfl)) pe_str (nomark _)))) (fun _ _ _ _ _ => (pe_ix (ixT (K := K) rfl) (pv 5) pe_int (fun _ _ => rfl)))) (pa_cons (pv 1) pa_nil))))
    (pss_cons (ps_set (i := 3) sc_Lkind.nd rfl (.inl rfl) (pe_def D_Lmerged hr (by omega) (by rfl) (pa_cons (pe_lc (own := [("_law_part_here", 5)]) (g := gName 5) rfl sc_Lkind.nd (kPiL (K := K) rfl (pv 0)) (blkOk_by (N := n_Lkind) (sc := (defScope s_Lkind)) (by decide +kernel)) (fun _ _ _ _ _ => (pg_name (i := 5) sc_Lkind.nd rfl (.inl rfl))) (fun _ _ _ _ _ => (pts_one (pt_cmpR op_eq (pe_ix (ixT (K := K) rfl) (pv 5) pe_int (fun _ _ => rfl)) pe_str (nomark _)))) (fun _ _ _ _ _ => (pe_slice (kSlA (K := K) rfl) (pv 5) (po_some pe_int) po_none))) pa_nil)))
    (pss_cons (ps_set (i := 4) sc_Lkind.nd rfl (.inl rfl) (pe_def D_Louter hr (by omega) (by rfl) (pa_cons (pe_lc (own := [("_law_part_here", 5)]) (g := gName 5) rfl sc_Lkind.nd (kPiL (K := K) rfl (pv 0)) (blkOk_by (N := n_Lkind) (sc := (defScope s_Lkind)) (by decide +kernel)) (fun _ _ _ _ _ => (pg_name (i := 5) sc_Lkind.nd rfl (.inl rfl))) (fun _ _ _ _ _ => (pts_one (pt_cmpR op_eq (pe_ix (ixT (K := K) rfl) (pv 5) pe_int (fun _ _ => rfl)) pe_str (nomark _)))) (fun _ _ _ _ _ => (pe_def D_Lkind hr (by omega) (by rfl) (pa_cons (pe_ix (ixT (K := K) rfl) (pv 5) pe_int (fun _ _ => rfl)) (pa_cons (pv 1) pa_nil))))) (pa_cons (pv 1) pa_nil))))
    (pss_one (ps_ret (pe_tup (pa_cons pe_bl (pa_cons (pv 2) (pa_cons (pv 3) (pa_cons (pv 4) pa_nil))))))))))), ?_⟩
  have hs := fun (x : Str) (h : inW W x) => inW_ok hW x h
  have hfew : List.length (α := PF (Prt n)) r ≤ 12 := hrow.few
  have hnz : Nz 60 (.list (r.map (partD (n + 1)))) := (nz_list (n := 2 * (n + 1) + 1) fun d hd => by
    obtain ⟨p, hp, rfl⟩ := List.mem_map.mp hd
    exact part_nz hs (n + 1) p (hrow.ok p hp)).mono (by omega)
  change List (PF (Prt n)) at r
  have hr2 : r.map (partD (n + 1)) = r.map (partDF (partD n)) := rfl
  refine st_if (b := hasAny r) fr (evt_test (K := K) (inD_ (d := .tuple [.str "any"]) (ds := r.map (partD (n + 1))) (evd_tup (evda_cons evd_str evda_nil) (by show 1 ≤ _; decide)) (var_ (by rfl) hx) (by decide +kernel) (hnz.shaped (by decide)) (by rw [hr2, any_of]))) (fun c H1 G1 e1 => ?_) fun c H1 G1 e1 => ?_
  · rw [kindP_any c] at q
    exact st_ret e1.fr (evd_tup (ds := [.bool true, .tuple [], .tuple [], .tuple []]) (evda_cons evd_bl (evda_cons (evd_tup evda_nil (Nat.zero_le _)) (evda_cons (evd_tup evda_nil (Nat.zero_le _)) (evda_cons (evd_tup evda_nil (Nat.zero_le _)) evda_nil)))) (by show 4 ≤ _; decide)) (exq q e1)
  rw [kindP_mk c] at q
  walk_at "nx"
  have hx1 : Dp K G1 x (.list (r.map (partDF (partD n)))) := dsame hx e1.gg
  have hy1 := (PDic U).mono e1.gg hy
  have tg : ∀ {σ : L2.St} {G2 : Hp} {v : V} {p : PF (Prt n)} {y : Str}, σ[5]? = some (some v) → Dp K G2 v (partDF (partD n) p) → EvT .no (tTest (tOp rEq (tOp (rIxT K) (tVar 5) (tC (.int 0))) (tC (.str y)))) σ G2 (decide (tagS p = y)) := fun {σ G2 v p y} h0 h => evt_test (K := K) (eqS_ (evd_ixT (ds := .str (tagS p) :: restD (partD n) p) (var_ h0 (part_tag (partD n) p ▸ h)) evd_int at_first) evd_str rfl)
  refine st_set (Φ := PD K (.tuple ((topsB (below W) (namesP r)).map .str))) e1.fr (ev_call (Φs := [PD K (.list ((namesP r).map .str)), PDic U]) (eva_cons ?_ (eva_cons (var_ (by rfl) hy1) eva_nil)) ⟨rfl, W, U, namesP r, hW, hU, fun z hz => hrow.ok _ (name_mem hz), Nat.le_trans (namesP_len r) hfew, rfl, rfl⟩ (.inl rfl)) fun v2 H2 G2 e2 p2 => ?_
  · rw [← names_of (partD n) r]
    refine lcf1 (bs := r) (Θ := fun p => PD K (partDF (partD n) p)) (p := fun p => decide (tagS p = "name")) (f := oneD (partD n)) (by decide) (ito_listF (enc := partDF (partD n)) (var_ (by rfl) hx1)) (by omega) fun p hp v G3 s3 hv3 => ⟨tg (by rfl) hv3, fun hb => ?_⟩
    match p, hb with
    | .name z, _ => exact evd_ixT (ds := [.str "name", .str z]) (var_ (by rfl) hv3) evd_int rfl
    | .none, hb => exact absurd (of_decide_eq_true hb) (by show ¬ (("none" : Str) = "name"); decide)
    | .any, hb => exact absurd (of_decide_eq_true hb) (by show ¬ (("any" : Str) = "name"); decide)
    | .span _, hb => exact absurd (of_decide_eq_true hb) (by show ¬ (("span" : Str) = "name"); decide)
    | .inner _, hb => exact absurd (of_decide_eq_true hb) (by show ¬ (("inner" : Str) = "name"); decide)
  walk_at "nx"
  have hx2 := dsame hx1 e2.gg
  have hy2 := (PDic U).mono e2.gg hy1
  refine st_set (Φ := PD K (.tuple ((formedS (spansP r)).map spanD))) e2.fr (evd_call (ds := [.list ((spansP r).map spanD)]) (eva_cons ?_ eva_nil) (by rfl) ⟨spansP r, ?_, fun s hs => (show SpanOk s from hrow.ok _ (span_mem hs)).num, rfl, rfl⟩) fun v3 H3 G3 e3 p3 => ?_
  · rw [← spans_of (partD n) r]
    refine lcf1 (bs := r) (Θ := fun p => PD K (partDF (partD n) p)) (p := fun p => decide (tagS p = "span")) (f := fun p => .tuple (restD (partD n) p)) (by decide) (ito_listF (enc := partDF (partD n)) (var_ (by rfl) hx2)) (by omega) fun p hp v G4 s4 hv4 => ⟨tg (by rfl) hv4, fun hb => ?_⟩
    have h1 := slT_ (o := .no) (K := K) (ds := .str (tagS p) :: restD (partD n) p) (lo := some 1) (hi := none) (var_ (σ := (wipe [some x, some y, some v2, none, none, none] [5]).set 5 (some v)) (n := 5) (by rfl) (part_tag (partD n) p ▸ hv4)) (evo_some (K := K) evd_int) evo_none
    rw [show (some (1 : Int)) = some ((1 : Nat) : Int) from rfl, cutD_drop] at h1
    exact h1
  · exact Nat.le_trans (spansP_len r) (Nat.le_trans hfew (by decide))
  walk_at "nx"
  have hx3 := dsame hx2 e3.gg
  have hy3 := (PDic U).mono e3.gg hy2
  have hin : ∀ s ∈ innersP r, ROk (inW W) n s := fun s hs => POk.row (hrow.ok _ (inner_mem hs))
  refine st_set (Φ := PD K (.tuple ((outF (encK n) (liesK (below W) n) ((innersP r).map (kindP (below W) n))).map (kindD n)))) e3.fr (ev_call (Φs := [PD K (.list (((innersP r).map (kindP (below W) n)).map (kindD n))), PDic U]) (eva_cons ?_ (eva_cons (var_ (by rfl) hy3) eva_nil)) ⟨rfl, W, U, (innersP r).map (kindP (below W) n), hW, hU, fun k hk => ?_, ?_, rfl, rfl⟩ (.inl rfl)) fun v4 H4 G4 e4 p4 => ?_
  · rw [← inners_of (kindP (below W) n) (kindD n) r]
    refine lcf1 (bs := r) (Θ := fun p => PD K (partDF (partD n) p)) (p := fun p => decide (tagS p = "inner")) (f := innD (kindP (below W) n) (kindD n)) (by decide) (ito_listF (enc := partDF (partD n)) (var_ (by rfl) hx3)) (by omega) fun p hp v G5 s5 hv5 => ⟨tg (by rfl) hv5, fun hb => ?_⟩
    match p, hp, hb with
    | .inner z, hp, _ => exact ev_call (Φs := [PD K (.list (z.map (partD n))), PDic U]) (eva_cons (evd_ixT (ds := [.str "inner", .list (z.map (partD n))]) (var_ (by rfl) hv5) evd_int rfl) (eva_cons (var_ (by rfl) ((PDic U).mono s5 hy3)) eva_nil)) ⟨rfl, W, U, z, hW, hU, POk.row (hrow.ok _ hp), by omega, rfl, rfl⟩ (.inl rfl)
    | .none, _, hb => exact absurd (of_decide_eq_true hb) (by show ¬ (("none" : Str) = "inner"); decide)
    | .any, _, hb => exact absurd (of_decide_eq_true hb) (by show ¬ (("any" : Str) = "inner"); decide)
    | .span _, _, hb => exact absurd (of_decide_eq_true hb) (by show ¬ (("span" : Str) = "inner"); decide)
    | .name _, _, hb => exact absurd (of_decide_eq_true hb) (by show ¬ (("name" : Str) = "inner"); decide)
  · obtain ⟨s, hs, rfl⟩ := List.mem_map.mp hk
    exact kindP_ok n s (hin s hs)
  · rw [List.length_map]
    exact Nat.le_trans (innersP_len r) hfew
  walk_at "nx"
  have heq : outF (encK n) (liesK (below W) n) ((innersP r).map (kindP (below W) n)) = outK (below W) n (((innersP r).map (kindP (below W) n)).map (reK (below W) n)) := outL_eq fun k hk => by
    obtain ⟨s, hs, rfl⟩ := List.mem_map.mp hk
    exact kindP_FK n s
  rw [heq] at p4
  refine st_ret e4.fr (evd_tup (ds := [.bool false, .tuple ((topsB (below W) (namesP r)).map .str), .tuple ((formedS (spansP r)).map spanD), .tuple ((outK (below W) n (((innersP r).map (kindP (below W) n)).map (reK (below W) n))).map (kindD n))]) (evda_cons evd_bl (evda_cons (var_ (by rfl) (dsame p2 (e3.gg.trans e4.gg))) (evda_cons (var_ (by rfl) (dsame p3 e4.gg)) (evda_cons (var_ (by rfl) p4) evda_nil)))) (by show 4 ≤ _; decide)) (exq q (((e1.trans e2).trans e3).trans e4))
theorem ok_Lkinds (Z : Zs mg) (D_Ltops : Def P w K mg base 1 "_law_tops" ["_law_names", "_law_ups_here"] (Fn (S_Ltops K))) (D_Lmerged : Def P w K mg base 1 "_law_merged" ["_law_stretches"] (FnR K 1 R_Lmerged)) (D_Louter : ∀ n ≤ 3, Def P w K mg base (2 + n) "_law_outer" ["_law_some", "_law_ups_here"] (Fn (S_Louter K n)))
    (A : At K mg "_law_kind" s_Lkind) : ∀ n ≤ 4, Def P w K mg base (6 + n) "_law_kind" ["_law_row", "_law_ups_here"] (Fn (S_Lkind K n))
  | 0, _ => (def_vac (k := 0) A sc_Lkind (fun _ _ _ _ _ _ us hl => match us, hl with | [_, _], _ => rfl) fun o Φs Ψ ⟨_, _, _, r, _, _, h, _⟩ => row_none h).mono (by omega)
  | n + 1, h => ok_Lkind_step (k := 6 + n) (by omega) Z D_Ltops D_Lmerged ((D_Louter n (by omega)).mono (by omega)) (ok_Lkinds Z D_Ltops D_Lmerged D_Louter A n (by omega)) A
end
end Fm
set_option maxHeartbeats 4000000
/-! FmLO: the law's showing. -/
namespace Fm
open PySem PySem.Spec PyProof.Rows L2
local macro_rules | `(tactic| walk_at "nx") => `(tactic| try dsimp only [tSeq, tNext])
theorem lcn2 {o : Ow} {K : PySem.W.Frag} {σ : L2.St} {G : Hp} {te : TE} {wi : TI} {vs : List Nat} {n m : Nat} {β : Type} {bs : List β} {Θ1 Θ2 : β → Pr} {f : β → PyData} (hv : n ∈ vs) (hv2 : m ∈ vs) (hi : ItOk o wi σ G (bs.map fun b => PTu K [Θ1 b, Θ2 b])) (hn : bs.length ≤ 100000)
    (step : ∀ b ∈ bs, ∀ x y G1, Same G G1 → (Θ1 b).p G1 x → (Θ2 b).p G1 y → EvD o K te (((wipe σ vs).set n (some x)).set m (some y)) G1 (f b)) : EvP o (tLc wi (gTup K 2 (gCons (gName n) (gCons (gName m) gNil))) tYes te vs) σ G (PN K (bs.map f)) :=
  (lc2 (K := K) (p := fun _ => true) (ψ := fun b => PD K (f b)) hv hv2 hi hn fun b hb x y G1 s p1 p2 => ⟨evt_yes, fun _ => step b hb x y G1 s p1 p2⟩).imp fun G1 v _ p => by
    rw [List.filter_eq_self.mpr (fun _ _ => rfl)] at p
    exact pl_datafn p
/-- l.extend(..), the list of ours -/
theorem st_extend {o : Ow} {K : PySem.W.Frag} {σ : L2.St} {G H : Hp} {te : TE} {D : Ends} {n : Nat} {p : Addr} {acc : List V} {ds : List PyData} (f : Fr o G H) (l : Loc o G H p acc) (hv : σ[n]? = some (some (.ref p))) (h : EvP o te σ G (PN K ds)) (hn : acc.length + ds.length ≤ 16777216)
    (q : ∀ ys H1 G1, Ex o G G1 H H1 → DpAll K G1 ys ds → Fr o G1 (upd H1 p (.lst (acc ++ ys))) → Loc o G1 (upd H1 p (.lst (acc ++ ys))) p (acc ++ ys) → D.nx σ (upd H1 p (.lst (acc ++ ys)))) : tDrop (tBM K "list" rExtend (tVar n) (tCons te tNil)) D σ H :=
  ⟨.ref p, hv, .inl ⟨rfl, acc, .inl (.inl l.at_)⟩, h H f _ fun y H1 G1 e ⟨b, zs, ey, hb, hd⟩ => by
    subst ey
    have l1 := l.ex e
    exact ⟨p, b, acc, zs, rfl, rfl, l1.at_, e.fr.sub b _ hb, by rw [sizeLine_eq, dalen hd]; exact hn, q zs H1 G1 e hd (e.fr.wrote l1.out l1.own) l1.put⟩⟩
section
variable {P : Program} {w : World} {K : PySem.W.Frag} {mg : Str → Option Value} {base : Heap}
def S_Lshown (K : PySem.W.Frag) (n : Nat) : Ow → List Pr → Pr → Prop := fun o Φs Ψ => o = .no ∧ ∃ nm, ∃ k : Kd n, NmOk nm ∧ n ≤ 4 ∧ ROk nm n (rowK n k) ∧ Φs = [PD K (kindD n k)] ∧ Ψ = PD K (.str (rowT n (rowK n k)))
theorem ok_Lshown_step {n k : Nat} (hk : 3 ≤ k) (Z : Zs mg) (D_Lpart_text : Def P w K mg base 3 "_law_part_text" ["_law_part_here"] (Fn (S_Lpart_text K 1))) (D_Lshown : Def P w K mg base k "_law_shown" ["_law_kind_here"] (Fn (S_Lshown K n))) (A : At K mg "_law_shown" s_Lshown) : Def P w K mg base (k + 1) "_law_shown" ["_law_kind_here"] (Fn (S_Lshown K (n + 1))) := by
  refine def_of A sc_Lshown (fun _ _ _ _ _ _ us hl => match us, hl with | [_], _ => rfl) (fun vs H Q E h => Fn.len (fun o Φs Ψ ⟨_, _, k, _, _, _, h3, _⟩ => by rw [h3] <;> rfl) h) fun f cdv A outer s H vs Q E hr h => ?_
  obtain ⟨_, _, _, G, ⟨rfl, nm, k, hnm, hn4, hrow, rfl, rfl⟩, fr, hv, q⟩ := h
  obtain ⟨x, rfl, hx⟩ := allp1 hv
  refine ⟨_, (pss_cons (ps_if (pt_val (pe_ix (ixT (K := K) rfl) (pv 0) pe_int (fun _ _ => rfl))) (pss_one (ps_ret pe_str)) pss_nil)
    (pss_cons (ps_set (i := 1) sc_Lshown.nd rfl (.inl rfl) (pe_callTy (crLst (K := K) rfl) (by rfl) Z.list bt_list (pa_cons (pe_ix (ixT (K := K) rfl) (pv 0) pe_int (fun _ _ => rfl)) pa_nil)))
    (pss_cons (ps_expr (kBm (K := K) rfl PySem.F.plainAttrs_list PySem.F.slot_list_extend PySem.F.type_list_extend mt_extend (pv 1) (pa_cons (pe_lc (own := [("_law_low", 2), ("_law_high", 3)]) (tt := tYes) rfl sc_Lshown.nd (kPiT (K := K) rfl (pe_ix (ixT (K := K) rfl) (pv 0) pe_int (fun _ _ => rfl))) (blkOk_by (N := n_Lshown) (sc := (defScope s_Lshown)) (by decide +kernel)) (fun _ _ _ _ _ => (kPgTup (K := K) (n := 2) rfl rfl (pgs_cons (pg_name (i := 2) sc_Lshown.nd rfl (.inl rfl)) (pgs_cons (pg_name (i := 3) sc_Lshown.nd rfl (.inl rfl)) pgs_nil)))) (fun _ _ _ _ _ => pts_nil) (fun _ _ _ _ _ => (pe_def D_Lpart_text hr (by omega) (by rfl) (pa_cons (pe_tup (pa_cons pe_str (pa_cons (pv 2) (pa_cons (pv 3) pa_nil)))) pa_nil)))) pa_nil)))
    (pss_cons (ps_expr (kBm (K := K) rfl PySem.F.plainAttrs_list PySem.F.slot_list_extend PySem.F.type_list_extend mt_extend (pv 1) (pa_cons (pe_lc (own := [("_law_inner", 4)]) (g := gName 4) (tt := tYes) rfl sc_Lshown.nd (kPiT (K := K) rfl (pe_ix (ixT (K := K) rfl) (pv 0) pe_int (fun _ _ => rfl))) (blkOk_by (N := n_Lshown) (sc := (defScope s_Lshown)) (by decide +kernel)) (fun _ _ _ _ _ => (pg_name (i := 4) sc_Lshown.nd rfl (.inl rfl))) (fun _ _ _ _ _ => pts_nil) (fun _ _ _ _ _ => (pe_op op_add_str (pe_op op_add_str pe_str (pe_def D_Lshown hr (by omega) (by rfl) (pa_cons (pv 4) pa_nil))) pe_str))) pa_nil)))
    (pss_cons (ps_if (pt_cmpR (kEqD (K := K) rfl hr.units) (pv 1) (pe_lst pa_nil) (nomark _)) (pss_one (ps_ret pe_str)) pss_nil)
    (pss_one (ps_ret (pe_join pe_str (pv 1))))))))), ?_⟩
  have hlen := row_len hnm hn4 hrow
  match k, hrow with
  | .any, hrow =>
    rw [kindD_any] at hx
    refine st_yes fr (evt_B (K := K) (evd_ixT (ds := [.bool true, .tuple [], .tuple [], .tuple []]) (var_ (by rfl) hx) evd_int rfl)) fun H2 G2 e2 => ?_
    exact st_ret e2.fr evd_str (exq q e2)
  | .mk ns ss is, hrow =>
    rw [kindD_mk] at hx
    have ix : ∀ {σ : L2.St} {G1 : Hp} {i : Int} {d : PyData}, σ[0]? = some (some x) → Same G G1 → atI [.bool false, .tuple (ns.map .str), .tuple (ss.map spanD), .tuple (is.map (kindD n))] i = some d → EvD .no K (tOp (rIxT K) (tVar 0) (tC (.int i))) σ G1 d := fun h0 s e => evd_ixT (var_ h0 (dsame hx s)) evd_int e
    refine st_no fr (evt_B (K := K) (ix (by rfl) (Same.refl _) rfl)) fun H2 G2 e2 => ?_
    walk_at "nx"
    generalize hL : (ns.map PF.name ++ ss.map PF.span ++ is.map (fun k => PF.inner (rowK n k)) : List (PF (Prt n))) = L
    have hok : ∀ p ∈ (rowF (rowK n) (.mk ns ss is) : List (PF (Prt n))), POk nm (n + 1) p := hrow.ok
    have hfew : List.length (rowF (rowK n) (.mk ns ss is) : List (PF (Prt n))) ≤ 12 := hrow.few
    have hcs := rowF_cases (rowK n) ns ss is
    rw [hL] at hcs
    have hP : ∀ p ∈ L, POk nm (n + 1) p := fun p hp => by
      rcases hcs with ⟨z, _⟩ | ⟨_, z⟩
      · rw [z] at hp; cases hp
      · exact hok p (by rw [z]; exact hp)
    have hLl : List.length L ≤ 12 := by
      rcases hcs with ⟨z, _⟩ | ⟨_, z⟩
      · rw [z]; exact Nat.zero_le _
      · rw [← z]; exact hfew
    have hcount : ns.length + ss.length + is.length = List.length L := by
      rw [← hL, List.length_append, List.length_append, List.length_map, List.length_map, List.length_map]
    have hspan : ∀ s ∈ ss, SpanOk s := fun s hs => hP (.span s) (by rw [← hL]; exact List.mem_append.mpr (.inl (List.mem_append.mpr (.inr (List.mem_map.mpr ⟨s, hs, rfl⟩)))))
    have hinn : ∀ k ∈ is, ROk nm n (rowK n k) := fun k hk => POk.row (hP (.inner (rowK n k)) (by rw [← hL]; exact List.mem_append.mpr (.inr (List.mem_map.mpr ⟨k, hk, rfl⟩))))
    have hT : (L.map (partF (partT n))).map PyData.str = (ns.map PyData.str ++ ss.map (fun s => PyData.str (spanT s))) ++ is.map (fun k => PyData.str ("[" ++ rowT n (rowK n k) ++ "]")) := by
      rw [← hL, List.map_append, List.map_append, List.map_append, List.map_append, List.map_map, List.map_map, List.map_map, List.map_map, List.map_map, List.map_map]
      rfl
    refine (ix (by rfl) e2.gg rfl : EvD .no K _ [some x, none, none, none, none] G2 (.tuple (ns.map .str))) H2 e2.fr _ fun v3 H3 G3 e3 p3 => ?_
    obtain ⟨ta, xs, rfl, hxs, hxd⟩ := dp_tup p3
    have hxe := dpall_strs hxd
    subst hxe
    refine ⟨ta, _, rfl, .inr (Same.tup e3.fr.sub hxs), fun p hp => ?_⟩
    have e23 := e2.trans e3
    have p0 : H p = none := e23.none_back (fun z => z) hp
    have E4 := e23.trans (Ex.aside (u := .lst (ns.map V.str)) e3.fr hp)
    have l4 : Loc .no G3 (upd H3 p (.lst (ns.map V.str))) p (ns.map V.str) := Loc.new e3.fr hp
    generalize upd H3 p (.lst (ns.map V.str)) = H4 at E4 l4 ⊢
    walk_at "nx"
    refine st_extend (K := K) (ds := ss.map fun s => .str (spanT s)) E4.fr l4 (by rfl) (lcn2 (K := K) (bs := ss) (Θ1 := fun s => PD K (endD s.1)) (Θ2 := fun s => PD K (endD s.2)) (f := fun s => .str (spanT s)) (by decide) (by decide) (it_pair (ito_tupF (enc := spanD) (ix (by rfl) E4.gg rfl))) (by omega) fun s hs a b G5 s5 ha hb => ?_) (by rw [List.length_map, List.length_map]; omega) fun ys H5 G5 e5 hd5 fr5 l5 => ?_
    · exact ev_call (Φs := [PD K (partD 1 (.span s))]) (eva_cons (evd_tup (ds := [.str "span", endD s.1, endD s.2]) (evda_cons evd_str (evda_cons (var_ (by rfl) ha) (evda_cons (var_ (by rfl) hb) evda_nil))) (by show 3 ≤ _; decide)) eva_nil) ⟨rfl, nm, (.span s : PF (Prt 0)), hnm, by decide, hspan s hs, rfl, rfl⟩ (.inl rfl)
    have E5 := (E4.trans e5).wrote (u := .lst (ns.map V.str ++ ys)) p0 (Loc.ex l4 e5).out (Loc.ex l4 e5).own
    have hys : ys = (ss.map spanT).map V.str := by
      refine dpall_strs (xs := ss.map spanT) (K := K) (H := G5) ?_
      rw [List.map_map]
      exact hd5
    subst hys
    clear hd5 fr5 e5
    generalize upd H5 p (.lst (ns.map V.str ++ (ss.map spanT).map V.str)) = H6 at E5 l5 ⊢
    walk_at "nx"
    refine st_extend (K := K) (ds := is.map fun k => .str ("[" ++ rowT n (rowK n k) ++ "]")) E5.fr l5 (by rfl) (lcn1 (bs := is) (Θ := fun k => PD K (kindD n k)) (f := fun k => .str ("[" ++ rowT n (rowK n k) ++ "]")) (by decide) (ito_tupF (enc := kindD n) (ix (by rfl) E5.gg rfl)) (by omega) fun k hk y G7 s7 hy => ?_) (by rw [List.length_append, List.length_map, List.length_map, List.length_map, List.length_map]; omega) fun ys H7 G7 e7 hd7 fr7 l7 => ?_
    · have hl4 := row_len hnm (by omega) (hinn k hk)
      refine addS_ (addS_ evd_str (ev_call (Φs := [PD K (kindD n k)]) (eva_cons (var_ (by rfl) hy) eva_nil) ⟨rfl, nm, k, hnm, by omega, hinn k hk, rfl, rfl⟩ (.inl rfl)) (by rw [show ("[" : Str).length = 1 from rfl]; omega) rfl) evd_str ?_ rfl
      rw [len_sg, sg_app, List.length_append, ← len_sg, ← len_sg, show ("[" : Str).length = 1 from rfl, show ("]" : Str).length = 1 from rfl]
      omega
    have E7 := (E5.trans e7).took p0 (Loc.ex l5 e7).out (Loc.ex l5 e7).own (Loc.ex l5 e7).at_
    have E7 := (E5.trans e7).wrote (u := .lst (ns.map V.str ++ (ss.map spanT).map V.str ++ ys)) p0 (Loc.ex l5 e7).out (Loc.ex l5 e7).own
    have hys : ys = (is.map fun k => "[" ++ rowT n (rowK n k) ++ "]").map V.str := by
      refine dpall_strs (xs := is.map fun k => "[" ++ rowT n (rowK n k) ++ "]") (K := K) (H := G7) ?_
      rw [List.map_map]
      exact hd7
    subst hys
    generalize upd H7 p (.lst (ns.map V.str ++ (ss.map spanT).map V.str ++ (is.map fun k => "[" ++ rowT n (rowK n k) ++ "]").map V.str)) = H8 at E7 l7 ⊢
    have E8 := E7.took p0 l7.out l7.own l7.at_
    have hall : ns.map V.str ++ (ss.map spanT).map V.str ++ (is.map fun k => "[" ++ rowT n (rowK n k) ++ "]").map V.str = (L.map (partF (partT n))).map V.str := by
      rw [← List.map_append, ← List.map_append]
      congr 1
      rw [← hL, List.map_append, List.map_append, List.map_map, List.map_map, List.map_map]
      rw [show (partF (partT n) ∘ PF.name : Str → Str) = id from rfl, List.map_id]
      rfl
    have p3 : Dp K (upd G7 p (.lst (ns.map V.str ++ (ss.map spanT).map V.str ++ (is.map fun k => "[" ++ rowT n (rowK n k) ++ "]").map V.str))) (.ref p) (.list ((L.map (partF (partT n))).map .str)) := by
      rw [hall]
      exact Dp.lst (.inl (.inl upd_same)) (dpall_of_strs _)
    generalize upd G7 p (.lst (ns.map V.str ++ (ss.map spanT).map V.str ++ (is.map fun k => "[" ++ rowT n (rowK n k) ++ "]").map V.str)) = G8 at E8 p3
    walk_at "nx"
    have hnz : Nz 1 (.list ((L.map (partF (partT n))).map .str)) := nz_strs fun z hz => by
      obtain ⟨p, hp, rfl⟩ := List.mem_map.mp hz
      exact ascii_ok (part_ascii hnm (n + 1) p (hP p hp))
    refine st_if (b := decide (L = [])) E8.fr (evt_test (K := K) (eqD_ (d := .list ((L.map (partF (partT n))).map .str)) (e := .list []) (var_ (by rfl) p3) (evd_lst (ds := []) eva_nil (by decide)) (hnz.shaped (by decide)) (by rfl) ?_)) (fun c H9 G9 e9 => ?_) fun c H9 G9 e9 => ?_
    · rw [eqv_nil, List.isEmpty_map, List.isEmpty_map]
      cases L <;> rfl
    · have c := of_decide_eq_true c
      rcases hcs with ⟨_, z⟩ | ⟨z, _⟩
      · have e : rowT (n + 1) (rowK (n + 1) (.mk ns ss is)) = "none" := by
          show joinB ((rowF (rowK n) (.mk ns ss is)).map (partF (partT n))) = "none"
          rw [z]
          rfl
        rw [e] at q
        exact st_ret e9.fr evd_str (exq q (E8.trans e9))
      · exact absurd c z
    · have c := of_decide_eq_false c
      rcases hcs with ⟨z, _⟩ | ⟨_, z⟩
      · exact absurd z c
      · have e : rowT (n + 1) (rowK (n + 1) (.mk ns ss is)) = Str.join "|" (L.map (partF (partT n))) := by
          show joinB ((rowF (rowK n) (.mk ns ss is)).map (partF (partT n))) = _
          rw [z]
          rfl
        rw [e] at q
        walk_at "nx"
        refine st_ret e9.fr (join_ evd_str (var_ (by rfl) (dsame p3 e9.gg)) ?_ rfl) (exq q (E8.trans e9))
        have h1 := sum_le (ps := L.map (partF (partT n))) (B := 6000) fun p hp => by
          obtain ⟨x, hx, rfl⟩ := List.mem_map.mp hp
          exact Nat.le_trans (part_len hnm (n + 1) x (hP x hx)) (lenB_le (n + 1) hn4)
        rw [List.length_map] at h1 ⊢
        rw [show ("|" : Str).length = 1 from rfl]
        omega
theorem ok_Lshowns (Z : Zs mg) (D_Lpart_text : Def P w K mg base 3 "_law_part_text" ["_law_part_here"] (Fn (S_Lpart_text K 1))) (A : At K mg "_law_shown" s_Lshown) : ∀ n, Def P w K mg base (4 + n) "_law_shown" ["_law_kind_here"] (Fn (S_Lshown K n))
  | 0 => def_vac A sc_Lshown (fun _ _ _ _ _ _ us hl => match us, hl with | [_], _ => rfl) fun o Φs Ψ ⟨_, _, _, _, _, h, _⟩ => h.ne rfl
  | n + 1 => ok_Lshown_step (k := 4 + n) (by omega) Z D_Lpart_text (ok_Lshowns Z D_Lpart_text A n) A
end
end Fm
set_option maxHeartbeats 4000000
/-! FmLP: kinds can be shown by repr. -/
namespace Fm
open PySem PySem.Spec PyProof.Rows L2
theorem tupleText_le {ts : List Str} {B : Nat} (h : ∀ t ∈ ts, t.length ≤ B) : (tupleText ts).length ≤ ts.length * (B + 2) + 3 := by
  have h1 := join_len (s := ", ") h
  rw [show ((", " : Str)).length = 2 from rfl] at h1
  unfold tupleText
  have e : ∀ x y : Str, (x ++ y).length = x.length + y.length := fun x y => by rw [len_sg, sg_app, List.length_append, ← len_sg, ← len_sg]
  rw [e, e, show ("(" : Str).length = 1 from rfl]
  have h2 : (Str.ofString (if ts.length == 1 then ",)" else ")" : String)).length ≤ 2 := by
    cases ts.length == 1
    · show (")" : Str).length ≤ 2; decide
    · show (",)" : Str).length ≤ 2; decide
  have h3 : ts.length * (B + 2) = ts.length * B + ts.length * 2 := Nat.mul_add ..
  omega
theorem shownAll_map {α : Type} (f : α → PyData) : ∀ l : List α, PyData.shownAll (l.map f) = l.map fun a => (f a).shown
  | [] => rfl
  | a :: l => by rw [List.map_cons, List.map_cons, PyData.shownAll, shownAll_map f l]
theorem showAll_map {α : Type} {f : α → PyData} : ∀ {l : List α}, (∀ a ∈ l, (f a).showable = true) → PyData.showableAll (l.map f) = true
  | [], _ => rfl
  | a :: l, h => by
    rw [List.map_cons, PyData.showableAll, h a List.mem_cons_self, showAll_map fun b hb => h b (List.mem_cons_of_mem _ hb)]
    rfl
theorem tup_le {α : Type} {f : α → PyData} {l : List α} {B : Nat} (h : ∀ a ∈ l, (f a).shown.length ≤ B) : (PyData.tuple (l.map f)).shown.length ≤ l.length * (B + 2) + 3 := by
  rw [PyData.shown, shownAll_map]
  have := tupleText_le (ts := l.map fun a => (f a).shown) (B := B) fun t ht => by
    obtain ⟨a, ha, rfl⟩ := List.mem_map.mp ht
    exact h a ha
  rwa [List.length_map] at this
theorem name_shown {x : Str} (h : isName x = true) : (PyData.str x).shown.length ≤ 150 := by
  rw [PyData.shown]
  have h1 := StrLaws.reprText_len x fun c hc => by
    have := isName_let h c hc
    exact Nat.lt_of_le_of_lt this.2 (by decide)
  have := isName_len h
  omega
theorem end_shown {e : Option Int} (h : EndOk e) : (endD e).shown.length ≤ 66 := by
  cases e with
  | none =>
    have := tup_le (f := PyData.int) (l := []) (B := 0) (fun _ h => by cases h)
    exact Nat.le_trans this (by decide)
  | some n =>
    have := tup_le (f := PyData.int) (l := [n]) (B := 61) fun a ha => by
      rw [List.mem_singleton.mp ha]
      exact numT_len (h.sm n rfl)
    exact Nat.le_trans this (by show 1 * (61 + 2) + 3 ≤ 66; decide)
theorem span_shown {s : Span} (h : SpanOk s) : (spanD s).shown.length ≤ 150 := by
  have := tup_le (f := endD) (l := [s.1, s.2]) (B := 66) fun a ha => by
    rcases List.mem_cons.mp ha with rfl | ha
    · exact end_shown h.lo
    · rw [List.mem_singleton.mp ha]; exact end_shown h.hi
  exact Nat.le_trans this (by show 2 * (66 + 2) + 3 ≤ 150; decide)
theorem end_show {e : Option Int} (h : EndOk e) : (endD e).showable = true := by
  cases e with
  | none => rfl
  | some n =>
    show (decide (n.natAbs.log2 < 1920) && true) = true
    rw [decide_eq_true (log60 (h.sm n rfl))]
    rfl
theorem span_show {s : Span} (h : SpanOk s) : (spanD s).showable = true := by
  show ((endD s.1).showable && ((endD s.2).showable && true)) = true
  rw [end_show h.lo, end_show h.hi]
  rfl
def lvB : Nat → Nat
  | 0 => 150
  | 1 => 150
  | n + 2 => 4 * (3 * (lvB (n + 1) + 2) + 5) + 3
theorem lvB_ge : ∀ n, 150 ≤ lvB n
  | 0 => Nat.le_refl _
  | 1 => Nat.le_refl _
  | n + 2 => by
    have := lvB_ge (n + 1)
    show 150 ≤ 4 * (3 * (lvB (n + 1) + 2) + 5) + 3
    omega
structure RB (nm : Str → Prop) (n c : Nat) (r : List (Prt n)) : Prop where
  ne : r ≠ []
  few : r.length ≤ c
  ok : ∀ p ∈ r, POk nm n p
theorem any_shown : (PyData.tuple [.bool true, .tuple [], .tuple [], .tuple []]).shown.length ≤ 100 := by decide +kernel
theorem any_show : (PyData.tuple [.bool true, .tuple [], .tuple [], .tuple []]).showable = true := by decide +kernel
theorem kind_shown {nm : Str → Prop} (hn : NmOk nm) : ∀ (n c : Nat) (k : Kd n), RB nm n c (rowK n k) → (kindD n k).shown.length ≤ 4 * (c * (lvB n + 2) + 5) + 3 ∧ (kindD n k).showable = true
  | 0, _, _, h => absurd rfl h.ne
  | n + 1, c, .any, h => by
    rw [kindD_any]
    refine ⟨?_, any_show⟩
    have h1 : 1 ≤ c := h.few
    have h2 : 1 * (lvB (n + 1) + 2) ≤ c * (lvB (n + 1) + 2) := Nat.mul_le_mul_right _ h1
    have := lvB_ge (n + 1)
    exact Nat.le_trans any_shown (by omega)
  | n + 1, c, .mk ns ss is, h => by
    have hL : ∀ p ∈ (ns.map PF.name ++ ss.map PF.span ++ is.map (fun k => PF.inner (rowK n k)) : List (PF (Prt n))), POk nm (n + 1) p := fun p hp => by
      rcases rowF_cases (rowK n) ns ss is with ⟨z, _⟩ | ⟨_, z⟩
      · rw [z] at hp; cases hp
      · exact h.ok p (by show p ∈ rowF (rowK n) (.mk ns ss is); rw [z]; exact hp)
    have hcount : ns.length + ss.length + is.length ≤ c := by
      have hf : List.length (rowF (rowK n) (.mk ns ss is)) ≤ c := h.few
      rcases rowF_cases (rowK n) ns ss is with ⟨z, _⟩ | ⟨_, z⟩
      · have := congrArg List.length z
        rw [List.length_append, List.length_append, List.length_map, List.length_map, List.length_map, List.length_nil] at this
        omega
      · rw [z, List.length_append, List.length_append, List.length_map, List.length_map, List.length_map] at hf
        exact hf
    have o1 : ∀ x ∈ ns, isName x = true := fun x hx => hn x (hL (.name x) (List.mem_append.mpr (.inl (List.mem_append.mpr (.inl (List.mem_map.mpr ⟨x, hx, rfl⟩))))))
    have o2 : ∀ s ∈ ss, SpanOk s := fun s hs => hL (.span s) (List.mem_append.mpr (.inl (List.mem_append.mpr (.inr (List.mem_map.mpr ⟨s, hs, rfl⟩)))))
    have o3 : ∀ k ∈ is, (kindD n k).shown.length ≤ lvB (n + 1) ∧ (kindD n k).showable = true := fun k hk => by
      have hp := POk.inner (hL (.inner (rowK n k)) (List.mem_append.mpr (.inr (List.mem_map.mpr ⟨k, hk, rfl⟩))))
      match n, k, hp with
      | 0, _, hp => exact absurd rfl hp.1
      | m + 1, k, hp => exact kind_shown hn (m + 1) 3 k ⟨hp.1, hp.2.1, hp.2.2⟩
    have g := lvB_ge (n + 1)
    rw [kindD_mk]
    generalize lvB (n + 1) = B at *
    have t1 := tup_le (f := PyData.str) (l := ns) (B := B) fun x hx => Nat.le_trans (name_shown (o1 x hx)) g
    have t2 := tup_le (f := spanD) (l := ss) (B := B) fun x hx => Nat.le_trans (span_shown (o2 x hx)) g
    have t3 := tup_le (f := kindD n) (l := is) (B := B) fun k hk => (o3 k hk).1
    have m1 : ns.length * (B + 2) ≤ c * (B + 2) := Nat.mul_le_mul_right _ (by omega)
    have m2 : ss.length * (B + 2) ≤ c * (B + 2) := Nat.mul_le_mul_right _ (by omega)
    have m3 : is.length * (B + 2) ≤ c * (B + 2) := Nat.mul_le_mul_right _ (by omega)
    have hc5 : 5 ≤ c * (B + 2) + 3 := by
      have h1 : 1 ≤ c := Nat.le_trans (List.length_pos_iff.mpr h.ne) h.few
      have : 1 * (B + 2) ≤ c * (B + 2) := Nat.mul_le_mul_right _ h1
      omega
    constructor
    · have := tup_le (f := id) (l := [PyData.bool false, .tuple (ns.map .str), .tuple (ss.map spanD), .tuple (is.map (kindD n))]) (B := c * (B + 2) + 3) fun d hd => by
        rcases List.mem_cons.mp hd with rfl | hd
        · exact Nat.le_trans (show (PyData.bool false).shown.length ≤ 5 by decide +kernel) hc5
        rcases List.mem_cons.mp hd with rfl | hd
        · exact Nat.le_trans t1 (by omega)
        rcases List.mem_cons.mp hd with rfl | hd
        · exact Nat.le_trans t2 (by omega)
        · rw [List.mem_singleton.mp hd]
          exact Nat.le_trans t3 (by omega)
      rw [List.map_id] at this
      refine Nat.le_trans this ?_
      simp only [List.length_cons, List.length_nil]
      omega
    · show ((PyData.bool false).showable && ((PyData.tuple (ns.map .str)).showable && ((PyData.tuple (ss.map spanD)).showable && ((PyData.tuple (is.map (kindD n))).showable && true)))) = true
      have s1 : (PyData.tuple (ns.map .str)).showable = true := by rw [PyData.showable]; exact showAll_map fun _ _ => rfl
      have s2 : (PyData.tuple (ss.map spanD)).showable = true := by rw [PyData.showable]; exact showAll_map fun s hs => span_show (o2 s hs)
      have s3 : (PyData.tuple (is.map (kindD n))).showable = true := by rw [PyData.showable]; exact showAll_map fun k hk => (o3 k hk).2
      rw [s1, s2, s3]
      rfl
theorem kind_shw {W : Wb} (hW : WebIn W) {k : Kd 4} (h : ROk (inW W) 4 (rowK 4 k)) (ok : KOk (inW W) 4 k) : Shw (kindD 4 k) := by
  have hs := kind_shown (nm := inW W) (fun x hx => hW.name hx) 4 12 k ⟨h.ne, h.few, h.ok⟩
  have nz := kind_nz (fun x hx => inW_ok hW x hx) 4 k ok
  refine ⟨?_, hs.2, PyData.hasDict_of_canLay _ nz.lay, Nat.le_trans nz.dep (by decide), Nat.le_trans hs.1 (by rw [sizeLine_eq]; decide)⟩
  obtain ⟨b, r, e⟩ := kind_tuple 4 k
  rw [e]
  rfl
end Fm
set_option maxHeartbeats 4000000
/-! FmLQ: the law. -/
namespace Fm
open PySem PySem.Spec PyProof.Rows L2
local macro_rules | `(tactic| walk_at "nx") => `(tactic| try dsimp only [tSeq, tNext])
/-- a web, as it is told or read again -/
structure WLike (W V : Wb) : Prop where
  inn : WebIn V
  nm : namesW V = namesW W
  be : below V = below W
theorem WLike.of {W : Wb} (h : WebIn W) : WLike W (webOf W) := ⟨webOf_in h, webOf_names W, below_webOf W⟩
theorem WLike.next {W V : Wb} (h : WLike W V) : WLike W (webOf V) := ⟨webOf_in h.inn, (webOf_names V).trans h.nm, (below_webOf V).trans h.be⟩
theorem WLike.inw {W V : Wb} (h : WLike W V) : inW V = inW W := by
  funext x
  show (x ∈ namesW V) = (x ∈ namesW W)
  rw [h.nm]
theorem tup_data {K : PySem.W.Frag} {G : Hp} {v : V} {t : Str × List Str} (h : (tupP K t).p G v) : Dp K G v (tupD t) := by
  obtain ⟨a, xs, rfl, h1, h2⟩ := h
  obtain ⟨y, z, rfl, p1, p2⟩ := allp2 h2
  exact Dp.tup h1 (.cons p1 (.cons (pn_d p2) .nil))
theorem tups_data {K : PySem.W.Frag} {G : Hp} {v : V} {W : Wb} (h : (PLn (W.map (tupP K))).p G v) : Dp K G v (.list (W.map tupD)) := by
  obtain ⟨a, xs, rfl, h1, h2⟩ := h
  refine Dp.lst (.inl (.inl h1)) (allp_da ?_)
  rw [List.map_map]
  exact allp_imp (fun t _ v p => tup_data p) h2
/-- rows that the law makes -/
abbrev Rw (W : Wb) := {r : List (Prt 4) // r ≠ [] ∧ r.length ≤ 8 ∧ ∀ p ∈ r, POk (inW W) 4 p}
def PRow (K : PySem.W.Frag) (W : Wb) : Pr := PE_ (Rw W) fun r => PN K (r.1.map (partD 4))
theorem Rw.rok {W : Wb} (r : Rw W) : ROk (inW W) 4 r.1 := ⟨r.2.1, by have := r.2.2.1; omega, r.2.2.2⟩
theorem Rw.turned {W : Wb} (r : Rw W) : ROk (inW W) 4 (r.1.reverse ++ r.1.take 1) := by
  refine ⟨fun z => ?_, ?_, fun p hp => r.2.2.2 p ((turn_mem r.1 p).mp hp)⟩
  · have := congrArg List.length z
    rw [List.length_append, List.length_reverse, List.length_nil] at this
    have := List.length_pos_iff.mpr r.2.1
    omega
  · rw [List.length_append, List.length_reverse, List.length_take]
    have := r.2.2.1
    omega
theorem row_of {K : PySem.W.Frag} {G : Hp} {v : V} {W : Wb} {k : Nat} (hk : 1 ≤ k ∧ k ≤ 8) (h : (PE_ {l : List {q : Prt 4 // POk (fun x => x ∈ namesW W) 4 q} // l.length = k} fun l => PLn (l.1.map fun q => PD K (partD 4 q.1))).p G v) : (PRow K W).p G v := by
  obtain ⟨⟨l, hl⟩, a, xs, rfl, h1, h2⟩ := h
  refine ⟨⟨l.map (·.1), fun z => ?_, by rw [List.length_map, hl]; exact hk.2, fun p hp => ?_⟩, a, xs, rfl, h1, allp_da ?_⟩
  · have := congrArg List.length z
    rw [List.length_map, hl] at this
    simp at this
    omega
  · obtain ⟨q, _, rfl⟩ := List.mem_map.mp hp
    exact q.2
  · rw [List.map_map, List.map_map]
    exact h2
section
variable {P : Program} {w : World} {K : PySem.W.Frag} {mg : Str → Option Value} {base : Heap} {C CW : Addr}
theorem st_web {σ : L2.St} {D : Ends} {G H : Hp} {x y : V} {W Wv : Wb} {xs : List Int} (h0 : σ[0]? = some (some x)) (h4 : σ[4]? = some (some y)) (fr : Fr .no G H) (hx : Dp K G x (.list (xs.map .int))) (hl : xs.length ≤ 1000) (hV : WLike W Wv) (hy : (PWeb CW Wv).p G y)
    (q : ∀ Wv' y' H1 G1, Ex .no G G1 H H1 → WLike W Wv' → (PWeb CW Wv').p G1 y' → D.nx (σ.set 4 (some y')) H1) (hs : σ = σ.set 4 (some y)) :
    tIfS
              (tTest
                (tOp rEq
                  (tOp (rI (fun x j => 0 < j) fun i j => V.int (i % j))
                    (tOp (rI CDiv fun i j => V.int (i / j))
                      (tCall (Fn (S_Lcell K)) [] E0 (tCons (tVar 0) (tCons (tC (V.int 0)) tNil))) (tC (V.int 2)))
                    (tC (V.int 2)))
                  (tC (V.int 1))))
              (tAsg
                (tCall (Fn (S_read_web K CW)) [] E0
                  (tCons (tCall (Fn (S_show_web K CW)) [] E0 (tCons (tVar 4) tNil)) tNil))
                (gName 4))
              tNext D σ H := by
  refine st_ifB (B := fun _ => True) fr (evb_test (ev_op (Φ1 := PInt) (Φ2 := PD K (.int 1)) (ev_op (Φ1 := PInt) (Φ2 := PD K (.int 2)) (ev_op (Φ1 := PInt) (Φ2 := PD K (.int 2)) (ev_call (Φs := [PD K (.list (xs.map .int)), PD K (.int ((0 : Nat) : Int))]) (eva_cons (var_ h0 hx) (eva_cons evd_int eva_nil)) ⟨rfl, xs, 0, hl, rfl, rfl⟩ (.inl rfl)) evd_int fun G2 H2 u v _ f p1 p2 Q k => ?_) evd_int fun G2 H2 u v _ f p1 p2 Q k => ?_) evd_int fun G2 H2 u v _ f p1 p2 Q k => ?_)) (fun _ H1 G1 e1 => ?_) fun _ H1 G1 e1 => ?_
  · obtain ⟨i, rfl⟩ := p1
    exact ⟨i, 2, rfl, dp_int p2, ⟨by decide, by decide⟩, k _ _ _ (Ex.refl f) ⟨_, rfl⟩⟩
  · obtain ⟨i, rfl⟩ := p1
    exact ⟨i, 2, rfl, dp_int p2, (by decide : (0 : Int) < 2), k _ _ _ (Ex.refl f) ⟨_, rfl⟩⟩
  · obtain ⟨i, rfl⟩ := p1
    rw [dp_int p2]
    exact ⟨rfl, k _ _ _ (Ex.refl f) ⟨_, rfl, True.intro⟩⟩
  · refine st_set (Φ := PWeb CW (webOf Wv)) e1.fr (ev_call (Φs := [PD K (.str (webT Wv))]) (eva_cons (ev_call (Φs := [PWeb CW Wv]) (eva_cons (var_ h4 ((PWeb CW Wv).mono e1.gg hy)) eva_nil) ⟨rfl, Wv, hV.inn, rfl, rfl⟩ (.inl rfl)) eva_nil) ⟨rfl, Wv, hV.inn, rfl, rfl⟩ (.inl rfl)) fun v2 H2 G2 e2 p2 => q _ _ _ _ (e1.trans e2) hV.next p2
  · rw [hs]
    exact q Wv y H1 G1 e1 hV ((PWeb CW Wv).mono e1.gg hy)
theorem st_eight {σ : L2.St} {D : Ends} {G H : Hp} {p : Addr} {z y : V} {W : Wb} (h7 : σ[7]? = some (some (.ref p))) (h5 : ∀ v, ((wipe σ [14]).set 14 (some v))[5]? = some (some z)) (h57 : ∀ v, ((wipe σ [14]).set 14 (some v))[7]? = some (some (.ref p))) (hs : σ = σ.set 8 (some y)) (fr : Fr (Own p) G H) (hW : WebIn W) (hz : Dp K G z (.list ((namesW W).map .str))) (hy : (PRow K W).p G y)
    (q : ∀ y' H1 G1, Ex (Own p) G G1 H H1 → (PRow K W).p G1 y' → D.nx (σ.set 8 (some y')) H1) :
    tIfS
                          (tTest
                            (tOp rEq (tCall (Fn (S_Ltake K)) [] E0 (tCons (tVar 7) (tCons (tC (V.int 8)) tNil)))
                              (tC (V.int 3))))
                          (tAsg
                            (tLc (iRng1 (tCons (tC (V.int 8)) tNil)) (gName 14) tYes
                              (tCall (Fn (S_Lpart K 4)) [] E0
                                (tCons (tVar 7) (tCons (tVar 5) (tCons (tC (V.int 2)) tNil))))
                              (List.map (fun x => x.snd) [((Str.ofString "_law_turn" : Str), (14 : Nat))]))
                            (gName 8))
                          tNext D σ H := by
  have hnl : (namesW W).length ≤ 20 := by
    unfold namesW
    rw [List.length_map]
    exact hW.few
  refine st_ifB fr (take_eq (K := K) (m := 8) (p := p) h7 evd_int (by decide) (by decide)) (fun _ H1 G1 e1 => ?_) fun _ H1 G1 e1 => ?_
  · refine st_set (Φ := PRow K W) e1.fr ((lcE1 (K := K) (k := 8) (ι := {q : Prt 4 // POk (fun x => x ∈ namesW W) 4 q}) (Ψ := fun q => PD K (partD 4 q.1)) (List.mem_singleton.mpr rfl) evd_int (by decide) fun v G2 s2 => ?_).imp fun G2 v _ h => row_of ⟨by decide, by decide⟩ h) fun v2 H2 G2 e2 p2 => q _ _ _ (e1.trans e2) p2
    exact ev_call (Φs := [PV (.ref p), PD K (.list ((namesW W).map .str)), PD K (.int ((2 : Nat) : Int))]) (eva_cons (var_ (h57 v) rfl) (eva_cons (var_ (h5 v) (dsame hz (e1.gg.trans s2))) (eva_cons evd_int eva_nil))) ⟨p, namesW W, 2, rfl, by decide, by decide, hnl, fun x hx => isName_ok (hW.name hx), rfl, rfl⟩ (.inr rfl)
  · rw [hs]
    exact q y H1 G1 e1 ((PRow K W).mono e1.gg hy)
end
end Fm
set_option maxHeartbeats 8000000
/-! FmLR: the law's body. -/
namespace Fm
open PySem PySem.Spec PyProof.Rows L2
local macro_rules | `(tactic| walk_at "nx") => `(tactic| try dsimp only [tSeq, tNext])
theorem reprD_ {o : Ow} {K : PySem.W.Frag} {σ : L2.St} {G : Hp} {ta : TE} {d : PyData} {x : Str} (h : EvD o K ta σ G d) (c : Shw d) (e : d.shown = x) : EvD o K (tCB (rRepr K) (tCons ta tNil)) σ G (.str x) := e ▸ repr_ h c
theorem ne_same {o : Ow} {K : PySem.W.Frag} {σ : L2.St} {G : Hp} {ta tb : TE} {x : Str} (h1 : EvD o K ta σ G (.str x)) (h2 : EvD o K tb σ G (.str x)) : EvT o (tTest (tOp rNe ta tb)) σ G false := evt_test (K := K) (neS_ h1 h2 (by rw [decide_eq_true rfl]; rfl))
theorem ints_data {K : PySem.W.Frag} {H : Hp} : ∀ ns : List Int, DpAll K H (ns.map V.int) (ns.map PyData.int)
  | [] => .nil
  | n :: ns => .cons (.int n) (ints_data ns)
section
variable {P : Program} {w : World} {K : PySem.W.Frag} {mg : Str → Option Value} {base : Heap} {C CW : Addr}
theorem ok_law (Z : Zs mg) (D_Lcell : Def P w K mg base 1 "_law_cell" ["_law_script", "_law_k"] (Fn (S_Lcell K))) (D_Ltake : Def P w K mg base 1 "_law_take" ["_law_purse", "_law_many"] (Fn (S_Ltake K)))
    (D_Ltuples : Def P w K mg base 3 "_law_tuples" ["_law_script", "_law_start", "_law_way"] (Fn (S_Ltuples K))) (D_Lups : Def P w K mg base 1 "_law_ups" ["_law_tuples_here"] (Fn (S_Lups K)))
    (D_Web_init : IDef P w K mg base 3 "Web" CW ["self", "tuples"] (InitP CW (S_init K CW))) (D_read_web : Def P w K mg base 5 "read_web" ["text"] (Fn (S_read_web K CW))) (D_show_web : Def P w K mg base 3 "show_web" ["web"] (Fn (S_show_web K CW)))
    (D_Lpart : Def P w K mg base 7 "_law_part" ["_law_purse", "_law_names", "_law_deep"] (Fn (S_Lpart K 4))) (D_Lkind : Def P w K mg base 10 "_law_kind" ["_law_row", "_law_ups_here"] (Fn (S_Lkind K 4)))
    (D_read_kind : Def P w K mg base 20 "read_kind" ["web", "text"] (Fn (S_read_kind K CW))) (D_Ltext : Def P w K mg base 10 "_law_text" ["_law_row"] (Fn (S_Ltext K 4)))
    (D_show_kind : Def P w K mg base 6 "show_kind" ["kind"] (Fn (S_show_kind K 4))) (D_Lshown : Def P w K mg base 8 "_law_shown" ["_law_kind_here"] (Fn (S_Lshown K 4))) (M_Web_names : MDef P w K mg base 1 CW "names" ["self"] (Fn (S_names K CW)))
    (f : Addr) (cdv : Value) (A : Around) (outer : List Env) (s : Shared) (H : Hp) (a : Addr) (ns : List Int) (Q : VK) (E : XK) (hr : Room 20 (A.deeper (envOfC "law" (defScope s_law) s.heap.objs.size f cdv))) (hg : (A.deeper (envOfC "law" (defScope s_law) s.heap.objs.size f cdv)).guards = some [])
    (hS : SqL K H a (ns.map V.int)) (hl : ns.length ≤ 63) (q : ∀ H', Q (.bl true) H') :
    ∃ t, PSs (cxOf CX0 P w K mg base n_law "law" (defScope s_law) f cdv A outer s H E).nox (defBody s_law) t ∧ t { nx := fun _ H' => Q .non H', rt := Q } (start n_law [.ref a]) H := by
  refine ⟨_, (pss_cons (ps_set (i := 1) sc_law.nd rfl (.inl rfl) (pe_op op_mod (pe_def D_Lcell hr (by omega) (by rfl) (pa_cons (pv 0) (pa_cons pe_int pa_nil))) pe_int))
    (pss_cons (ps_set (i := 2) sc_law.nd rfl (.inl rfl) (pe_def D_Ltuples hr (by omega) (by rfl) (pa_cons (pv 0) (pa_cons pe_int (pa_cons (pv 1) pa_nil)))))
    (pss_cons (ps_set (i := 3) sc_law.nd rfl (.inl rfl) (pe_def D_Lups hr (by omega) (by rfl) (pa_cons (pv 2) pa_nil)))
    (pss_cons (ps_set (i := 4) sc_law.nd rfl (.inl rfl) (kMake D_Web_init hr (by omega) (by rfl) (pa_cons (pv 2) pa_nil)))
    (pss_cons (ps_if (pt_cmpR op_eq (pe_op op_mod (pe_op op_fdiv (pe_def D_Lcell hr (by omega) (by rfl) (pa_cons (pv 0) (pa_cons pe_int pa_nil))) pe_int) pe_int) pe_int (nomark _)) (pss_one (ps_set (i := 4) sc_law.nd rfl (.inl rfl) (pe_def D_read_web hr (by omega) (by rfl) (pa_cons (pe_def D_show_web hr (by omega) (by rfl) (pa_cons (pv 4) pa_nil)) pa_nil)))) pss_nil)
    (pss_cons (ps_set (i := 5) sc_law.nd rfl (.inr rfl) (pe_lc (own := [("_law_name_here", 12), ("_law_over", 13)]) (tt := tYes) rfl sc_law.nd (kPiL (K := K) rfl (pv 2)) (blkOk_by (N := n_law) (sc := (defScope s_law)) (by decide +kernel)) (fun _ _ _ _ _ => (kPgTup (K := K) (n := 2) rfl rfl (pgs_cons (pg_name (i := 12) sc_law.nd rfl (.inl rfl)) (pgs_cons (pg_name (i := 13) sc_law.nd rfl (.inl rfl)) pgs_nil)))) (fun _ _ _ _ _ => pts_nil) (fun _ _ _ _ _ => (pv 12))))
    (pss_cons (ps_for PassesOwn.never rfl (pi_range2 (by rfl) Z.range (pa_cons pe_int (pa_cons (pe_callB (kMaxD (K := K) rfl rfl hr.units) (by rfl) Z.max bt_max (pa_cons pe_int (pa_cons (pe_callB (kMinD (K := K) rfl rfl hr.units) (by rfl) Z.min bt_min (pa_cons (pe_callB (crLen (K := K) rfl) (by rfl) Z.len bt_len (pa_cons (pv 0) pa_nil)) (pa_cons pe_int pa_nil))) pa_nil))) pa_nil))) (pg_name (i := 6) sc_law.nd rfl (.inl rfl)) (pss_cons (ps_set (i := 7) sc_law.nd rfl (.inr rfl) (pe_lst (pa_cons (pe_def D_Lcell hr (by omega) (by rfl) (pa_cons (pv 0) (pa_cons (pv 6) pa_nil))) (pa_cons (pv 1) pa_nil))))
      (pss_cons (ps_setLc (i := 8) (own := [("_law_turn", 14)]) (g := gName 14) (tt := tYes) rfl sc_law.nd rfl rfl (sw_true rfl rfl rfl (by decide +kernel)) (pi_range1 (by rfl) Z.range (pa_cons (pe_op op_add pe_int (pe_def D_Ltake hr (by omega) (by rfl) (pa_cons (pv 7) (pa_cons pe_int pa_nil)))) pa_nil)) (blkOk_by (N := n_law) (sc := (defScope s_law)) (by decide +kernel)) (fun _ _ _ _ _ => (pg_name (i := 14) sc_law.nd rfl (.inl rfl))) (fun _ _ _ _ _ => pts_nil) (fun _ _ _ _ _ => (pe_def D_Lpart hr (by omega) (by rfl) (pa_cons (pv 7) (pa_cons (pv 5) (pa_cons pe_int pa_nil))))))
      (pss_cons (ps_if (pt_cmpR op_eq (pe_def D_Ltake hr (by omega) (by rfl) (pa_cons (pv 7) (pa_cons pe_int pa_nil))) pe_int (nomark _)) (pss_one (ps_setLc (i := 8) (own := [("_law_turn", 14)]) (g := gName 14) (tt := tYes) rfl sc_law.nd rfl rfl (sw_true rfl rfl rfl (by decide +kernel)) (pi_range1 (by rfl) Z.range (pa_cons pe_int pa_nil)) (blkOk_by (N := n_law) (sc := (defScope s_law)) (by decide +kernel)) (fun _ _ _ _ _ => (pg_name (i := 14) sc_law.nd rfl (.inl rfl))) (fun _ _ _ _ _ => pts_nil) (fun _ _ _ _ _ => (pe_def D_Lpart hr (by omega) (by rfl) (pa_cons (pv 7) (pa_cons (pv 5) (pa_cons pe_int pa_nil))))))) pss_nil)
      (pss_cons (ps_set (i := 9) sc_law.nd rfl (.inl rfl) (pe_def D_Lkind hr (by omega) (by rfl) (pa_cons (pv 8) (pa_cons (pv 3) pa_nil))))
      (pss_cons (ps_set (i := 10) sc_law.nd rfl (.inl rfl) (pe_def D_read_kind hr (by omega) (by rfl) (pa_cons (pv 4) (pa_cons (pe_def D_Ltext hr (by omega) (by rfl) (pa_cons (pv 8) pa_nil)) pa_nil))))
      (pss_cons (ps_if (PW.pt (pw_or (pt_cmpR op_ne (pe_callB (kRepr (K := K) rfl hg hr.units) (by rfl) Z.repr bt_repr (pa_cons (pv 10) pa_nil)) (pe_callB (kRepr (K := K) rfl hg hr.units) (by rfl) Z.repr bt_repr (pa_cons (pv 9) pa_nil)) (nomark _)) (pw_or1 (pt_cmpR op_ne (pe_callB (kRepr (K := K) rfl hg hr.units) (by rfl) Z.repr bt_repr (pa_cons (pe_def D_read_kind hr (by omega) (by rfl) (pa_cons (pv 4) (pa_cons (pe_def D_Ltext hr (by omega) (by rfl) (pa_cons (pe_op op_cat (kRevL (K := K) rfl (pv 8)) (pe_slice (kSlL (K := K) rfl) (pv 8) po_none (po_some pe_int))) pa_nil)) pa_nil))) pa_nil)) (pe_callB (kRepr (K := K) rfl hg hr.units) (by rfl) Z.repr bt_repr (pa_cons (pv 9) pa_nil)) (nomark _))))) (pss_one (ps_ret pe_bl)) pss_nil)
      (pss_cons (ps_set (i := 11) sc_law.nd rfl (.inl rfl) (pe_def D_show_kind hr (by omega) (by rfl) (pa_cons (pv 10) pa_nil)))
      (pss_one (ps_if (PW.pt (pw_or (pt_cmpR op_ne (pv 11) (pe_def D_Lshown hr (by omega) (by rfl) (pa_cons (pv 9) pa_nil)) (nomark _)) (pw_or1 (pt_cmpR op_ne (pe_callB (kRepr (K := K) rfl hg hr.units) (by rfl) Z.repr bt_repr (pa_cons (pe_def D_read_kind hr (by omega) (by rfl) (pa_cons (pv 4) (pa_cons (pv 11) pa_nil))) pa_nil)) (pe_callB (kRepr (K := K) rfl hg hr.units) (by rfl) Z.repr bt_repr (pa_cons (pv 9) pa_nil)) (nomark _))))) (pss_one (ps_ret pe_bl)) pss_nil))))))))))
    (pss_one (ps_ret (pe_cmpR (kEqD (K := K) rfl hr.units) (kMeth0 M_Web_names hr (by omega) (pv 4)) (pv 5) (nomark _))))))))))), ?_⟩
  have f0 : Fr .no H H := ⟨Same.refl H, fun _ h => h.elim, True.intro⟩
  have hx : Dp K H (.ref a) (.list (ns.map .int)) := Dp.lst hS (ints_data ns)
  have hl1 : ns.length ≤ 1000 := by omega
  refine st_set (Φ := PInt) f0 (ev_op (Φ1 := PInt) (Φ2 := PD K (.int 2)) (ev_call (Φs := [PD K (.list (ns.map .int)), PD K (.int ((0 : Nat) : Int))]) (eva_cons (var_ (by rfl) hx) (eva_cons evd_int eva_nil)) ⟨rfl, ns, 0, hl1, rfl, rfl⟩ (.inl rfl)) evd_int fun G2 H2 u v _ f p1 p2 Q k => ?_) fun v1 H1 G1 e1 p1 => ?_
  · obtain ⟨i, rfl⟩ := p1
    exact ⟨i, 2, rfl, dp_int p2, (by decide : (0 : Int) < 2), k _ _ _ (Ex.refl f) ⟨_, rfl⟩⟩
  obtain ⟨wy, rfl⟩ := p1
  walk_at "nx"
  refine st_set (Φ := PE_ {W : Wb // WebIn W} fun W => PLn (W.1.map (tupP K))) e1.fr (ev_call (Φs := [PD K (.list (ns.map .int)), PD K (.int ((1 : Nat) : Int)), PD K (.int wy)]) (eva_cons (var_ (by rfl) (dsame hx e1.gg)) (eva_cons evd_int (eva_cons (var_ (by rfl) (Dp.int wy)) eva_nil))) ⟨rfl, ns, 1, wy, hl1, by decide, rfl, rfl⟩ (.inl rfl)) fun v2 H2 G2 e2 p2 => ?_
  obtain ⟨⟨W, hW⟩, p2⟩ := p2
  have p2 : (PLn (W.map (tupP K))).p G2 v2 := p2
  walk_at "nx"
  refine st_set (Φ := PE_ {U : Wb // UpsOf W U} fun U => PDic U.1) e2.fr (ev_call (Φs := [PLn (W.map (tupP K))]) (eva_cons (var_ (by rfl) p2) eva_nil) ⟨rfl, W, hW, rfl, rfl⟩ (.inl rfl)) fun v3 H3 G3 e3 p3 => ?_
  obtain ⟨⟨U, hU⟩, p3⟩ := p3
  have p3 : (PDic U).p G3 v3 := p3
  walk_at "nx"
  refine st_set (Φ := PWeb CW (webOf W)) e3.fr (ev_make (Φs := [PD K (.list (W.map tupD))]) (eva_cons (var_ (by rfl) (tups_data ((PLn (W.map (tupP K))).mono e3.gg p2))) eva_nil) ⟨rfl, W, hW, rfl, rfl⟩) fun v4 H4 G4 e4 p4 => ?_
  have E4 := ((e1.trans e2).trans e3).trans e4
  walk_at "nx"
  refine st_web (K := K) (CW := CW) (x := .ref a) (y := v4) (W := W) (Wv := webOf W) (xs := ns) (by rfl) (by rfl) E4.fr (dsame hx E4.gg) hl1 (WLike.of hW) p4 (fun V' y5 H5 G5 e5 hV p5 => ?_) (by rfl)
  have E5 := E4.trans e5
  have p25 := (PLn (W.map (tupP K))).mono ((e3.gg.trans e4.gg).trans e5.gg) p2
  have p35 := (PDic U).mono (e4.gg.trans e5.gg) p3
  clear p4 p2 p3 e1 e2 e3 e4 e5 E4
  walk_at "nx"
  have hwf := hW.few
  refine st_set (Φ := PN K ((namesW W).map .str)) E5.fr ?_ fun v6 H6 G6 e6 p6 => ?_
  · have hm : (namesW W).map PyData.str = W.map fun t => PyData.str t.1 := by unfold namesW; rw [List.map_map]; rfl
    rw [hm]
    exact lcn2 (K := K) (bs := W) (Θ1 := fun t => PD K (.str t.1)) (Θ2 := fun t => PN K (t.2.map .str)) (f := fun t => .str t.1) (by decide) (by decide) (ito_list (K := K) (fs := W.map (tupP K)) (var_ (by rfl) (pln_l p25))) (by omega) fun t ht b c G7 s7 hb hc => var_ (by rfl) hb
  have E6 := E5.trans e6
  have p36 := (PDic U).mono e6.gg p35
  have p56 := (PWeb CW V').mono e6.gg p5
  clear p25 p35 p5 e6 E5
  walk_at "nx"
  have hnm : NmOk (inW W) := fun z hz => hW.name hz
  have rd : ∀ {σ : L2.St} {G' : Hp} {te : TE} {row : List (Prt 4)}, σ[4]? = some (some y5) → (PWeb CW V').p G' y5 → ROk (inW W) 4 row → EvD .no K te σ G' (.str (rowT 4 row)) → EvD .no K (tCall (Fn (S_read_kind K CW)) [] E0 (tCons (tVar 4) (tCons te tNil))) σ G' (kindD 4 (kindP (below W) 4 row)) := fun {σ G' te row} h4 hw hrow ht => by
    have hrow' : ROk (inW V') 4 row := by rw [hV.inw]; exact hrow
    have h : EvP .no (tCall (Fn (S_read_kind K CW)) [] E0 (tCons (tVar 4) (tCons te tNil))) σ G' (PD K (kindD 4 (kindP (below V') 4 row))) := ev_call (Φs := [PWeb CW V', PD K (.str (rowT 4 row))]) (eva_cons (var_ h4 hw) (eva_cons ht eva_nil)) ⟨rfl, V', row, hV.inn, hrow', rfl, rfl⟩ (.inl rfl)
    rw [hV.be] at h
    exact h
  have tx : ∀ {σ : L2.St} {G' : Hp} {te : TE} {row : List (Prt 4)}, ROk (inW W) 4 row → EvD .no K te σ G' (.list (row.map (partD 4))) → EvD .no K (tCall (Fn (S_Ltext K 4)) [] E0 (tCons te tNil)) σ G' (.str (rowT 4 row)) := fun {σ G' te row} hrow ht =>
    ev_call (Φs := [PD K (.list (row.map (partD 4)))]) (eva_cons ht eva_nil) ⟨rfl, inW W, row, hnm, by decide, hrow, rfl, rfl⟩ (.inl rfl)
  have hnl : (namesW W).length ≤ 20 := by
    unfold namesW
    rw [List.length_map]
    exact hwf
  obtain ⟨L, hL⟩ : ∃ L : Int, L = ((ns.length : Nat) : Int) := ⟨_, rfl⟩
  obtain ⟨j, hj0, hj1, hjm⟩ : ∃ j : Int, 9 ≤ j ∧ j ≤ 20 ∧ (if 9 < (if 20 < L then 20 else L) then (if 20 < L then 20 else L) else 9) = j := by
    refine ⟨_, ?_, ?_, rfl⟩
    · split <;> split <;> omega
    · split <;> split <;> omega
  refine for_ E6.fr (ito_range2 (K := K) (i := 8) (j := j) (eva_cons evd_int (eva_cons ?_ eva_nil)) ⟨by decide, by decide⟩ ⟨by omega, by omega⟩) fun G7 H7 e7 => ?_
  · have h := maxI_ (K := K) (o := .no) (σ := [some (V.ref a), some (V.int wy), some v2, some v3, some y5, some v6, none, none, none, none, none, none, none, none, none]) (G := G6) (evd_int (i := 9)) (minI_ (a := L) (lenLD_ (ds := ns.map PyData.int) (var_ (n := 0) (by rfl) (dsame hx E6.gg)) (by rw [List.length_map, hL])) (evd_int (i := 20)))
    rw [hjm] at h
    exact h
  refine ⟨fun k σ G' H' => Same G7 G' ∧ Ex .no H G' H H' ∧ ∃ b6 b7 b8 b9 b10 b11 b12 b13 b14 : Option V, σ = [some (.ref a), some (.int wy), some v2, some v3, some y5, some v6, b6, b7, b8, b9, b10, b11, b12, b13, b14], ⟨Same.refl _, E6.trans e7, _, _, _, _, _, _, _, _, _, rfl⟩, fun k σ G H h => ⟨h.1, h.2.1.fr.sub⟩, ?_, ?_⟩
  · rintro k φ x σ G8 H8 hk hx8 ⟨s8, E8, b6, b7, b8, b9, b10, b11, b12, b13, b14, rfl⟩
    have hkl := (List.getElem?_eq_some_iff.mp hk).1
    rw [intsP_len] at hkl
    rw [intsP_at _ _ _ hkl] at hk
    cases hk
    have hx8 : x = .int (8 + k) := dp_int hx8
    subst hx8
    have s68 := e7.gg.trans s8
    refine st_purse (K := K) (wy := wy) E8.fr (ev_call (Φs := [PD K (.list (ns.map .int)), PD K (.int ((8 + k : Nat) : Int))]) (eva_cons (var_ (by rfl) (dsame hx E8.gg)) (eva_cons (var_ (v := .int (8 + k)) (by rfl) (by rw [show ((8 + k : Nat) : Int) = 8 + (k : Int) by push_cast; rfl]; exact Dp.int _)) eva_nil)) ⟨rfl, ns, 8 + k, hl1, rfl, rfl⟩ (.inl rfl)) (by rfl) fun p H9 G9 e9 hp0 lp9 => ?_
    have E9 := E8.trans e9
    have p0 : H p = none := E8.none_back (fun z => z) hp0
    have s69 := s68.trans e9.gg
    have s89 := s8.trans e9.gg
    clear e9 hp0 s68 E8 s8
    walk_at "nx"
    have hz9 : Dp K G9 v6 (.list ((namesW W).map .str)) := pn_d ((PN K ((namesW W).map .str)).mono s69 p6)
    refine st_set (o := Own p) (Φ := PRow K W) (lp9.fr E9.fr) (lc_rngE (K := K) (ι := {i : Int // 0 ≤ i ∧ i < 3}) (N := fun i => (1 + i.1).toNat) (ev_op (Φ1 := PD K (.int 1)) (Φ2 := PTake K 3) evd_int (take_ (K := K) (m := 3) (p := p) (by rfl) evd_int (by decide) (by decide)) fun G2 H2 u v _ f p1 p2 Q k => ?_) fun i => ?_) fun v10 H10 G10 e10 p10 => ?_
    · obtain ⟨i, p2⟩ := p2
      refine ⟨1, i.1, dp_int p1, dp_int p2, k _ _ _ (Ex.refl f) ⟨i, ?_⟩⟩
      have i0 := i.2.1
      show Dp K G2 (.int (1 + i.1)) (.int ((1 + i.1).toNat : Int))
      rw [show (((1 + i.1).toNat : Nat) : Int) = 1 + i.1 by omega]
      exact Dp.int _
    · have i0 := i.2.1
      have i1 := i.2.2
      refine (lcE1 (K := K) (k := (1 + i.1).toNat) (ι := {q : Prt 4 // POk (fun x => x ∈ namesW W) 4 q}) (Ψ := fun q => PD K (partD 4 q.1)) (List.mem_singleton.mpr rfl) evd_int (by omega) fun v G2 s2 => ?_).imp fun G2 v _ h => row_of ⟨by omega, by omega⟩ h
      exact ev_call (Φs := [PV (.ref p), PD K (.list ((namesW W).map .str)), PD K (.int ((0 : Nat) : Int))]) (eva_cons (var_ (by rfl) rfl) (eva_cons (var_ (by rfl) (dsame hz9 s2)) (eva_cons evd_int eva_nil))) ⟨p, namesW W, 0, rfl, by decide, by decide, hnl, fun x hx => isName_ok (hW.name hx), rfl, rfl⟩ (.inr rfl)
    have E10 := E9.unown p0 e10
    have lp10 := LP.of e10
    have s610 := s69.trans e10.gg
    have s810 := s89.trans e10.gg
    have hz10 := dsame hz9 e10.gg
    clear e10 lp9 E9 s69 s89 hz9
    walk_at "nx"
    refine st_eight (K := K) (p := p) (z := v6) (y := v10) (W := W) (by rfl) (fun v => by rfl) (fun v => by rfl) (by rfl) (lp10.fr E10.fr) hW hz10 p10 fun v11 H11 G11 e11 p11 => ?_
    have E11 := E10.unown p0 e11
    have s611 := s610.trans e11.gg
    have s811 := s810.trans e11.gg
    clear e11 lp10 E10 s610 s810 hz10 p10
    obtain ⟨r, pr⟩ := p11
    have pr : Dp K G11 v11 (.list (r.1.map (partD 4))) := pn_d pr
    have hfk : FK (below W) 4 (kindP (below W) 4 r.1) := kindP_FK 4 _
    have hrow2 : ROk (inW W) 4 (rowK 4 (kindP (below W) 4 r.1)) := ROk.row r.rok
    have hok : KOk (inW W) 4 (kindP (below W) 4 r.1) := kindP_ok 4 r.1 r.rok
    have hshw := kind_shw hW hrow2 hok
    have hturn : kindP (below W) 4 (r.1.reverse ++ r.1.take 1) = kindP (below W) 4 r.1 := kindP_one (n := 3) (turn_mem r.1)
    have hread := kindP_rowK 4 (kindP (below W) 4 r.1) hfk
    have pd11 := (PDic U).mono s611 p36
    have pw11 := (PWeb CW V').mono s611 p56
    walk_at "nx"
    refine st_set (Φ := PD K (kindD 4 (kindP (below W) 4 r.1))) E11.fr (ev_call (Φs := [PD K (.list (r.1.map (partD 4))), PDic U]) (eva_cons (var_ (by rfl) pr) (eva_cons (var_ (by rfl) pd11) eva_nil)) ⟨rfl, W, U, r.1, hW, hU, r.rok, by decide, rfl, rfl⟩ (.inl rfl)) fun v12 H12 G12 e12 p12 => ?_
    have pw12 := (PWeb CW V').mono e12.gg pw11
    have pr12 := dsame pr e12.gg
    walk_at "nx"
    refine st_set (Φ := PD K (kindD 4 (kindP (below W) 4 r.1))) e12.fr (rd (by rfl) pw12 r.rok (tx r.rok (var_ (by rfl) pr12))) fun v13 H13 G13 e13 p13 => ?_
    have E13 := (E11.trans e12).trans e13
    have s813 := (s811.trans e12.gg).trans e13.gg
    have pw13 := (PWeb CW V').mono e13.gg pw12
    have pr13 := dsame pr12 e13.gg
    have p12' : Dp K G13 v12 (kindD 4 (kindP (below W) 4 r.1)) := dsame p12 e13.gg
    have p13 : Dp K G13 v13 (kindD 4 (kindP (below W) 4 r.1)) := p13
    clear pw11 pw12 pr pr12 p12 e12 e13 E11 s811 pd11 s611
    walk_at "nx"
    refine st_no E13.fr (evt_or_f (ne_same (reprD_ (var_ (by rfl) p13) hshw rfl) (reprD_ (var_ (by rfl) p12') hshw rfl)) (ne_same (reprD_ ((rd (by rfl) pw13 r.turned (tx r.turned (EvD.to (EvP.nd (catN_ (revN_ (var_ (by rfl) pr13)) (slN_ (var_ (by rfl) pr13) evo_none (evo_some (K := K) evd_int)) ?_)) ?_))).to (by rw [hturn])) hshw rfl) (reprD_ (var_ (by rfl) p12') hshw rfl))) fun H14 G14 e14 => ?_
    · have := r.2.2.1
      rw [show (some (1 : Int)) = some ((1 : Nat) : Int) from rfl, cutD_take, List.length_reverse, List.length_take, List.length_map]
      omega
    · rw [show (some (1 : Int)) = some ((1 : Nat) : Int) from rfl, cutD_take, List.map_append, List.map_reverse, List.map_take]
    have p13b := dsame p13 e14.gg
    walk_at "nx"
    refine st_set (Φ := PD K (.str (rowT 4 (rowK 4 (kindP (below W) 4 r.1))))) e14.fr (ev_call (Φs := [PD K (kindD 4 (kindP (below W) 4 r.1))]) (eva_cons (var_ (by rfl) p13b) eva_nil) ⟨rfl, inW W, kindP (below W) 4 r.1, hnm, by decide, hrow2, rfl, rfl⟩ (.inl rfl)) fun v15 H15 G15 e15 p15 => ?_
    have E15 := (E13.trans e14).trans e15
    have s815 := (s813.trans e14.gg).trans e15.gg
    have pw15 := (PWeb CW V').mono (e14.gg.trans e15.gg) pw13
    have p12c := dsame p12' (e14.gg.trans e15.gg)
    walk_at "nx"
    refine st_no E15.fr (evt_or_f (ne_same (var_ (by rfl) p15) (ev_call (Φs := [PD K (kindD 4 (kindP (below W) 4 r.1))]) (eva_cons (var_ (by rfl) p12c) eva_nil) ⟨rfl, inW W, kindP (below W) 4 r.1, hnm, by decide, hrow2, rfl, rfl⟩ (.inl rfl))) (ne_same (reprD_ ((rd (by rfl) pw15 hrow2 (var_ (by rfl) p15)).to (by rw [hread])) hshw rfl) (reprD_ (var_ (by rfl) p12c) hshw rfl))) fun H16 G16 e16 => ?_
    walk_at "nx"
    exact ⟨G16, s815.trans e16.gg, E15.trans e16, _, _, _, _, _, _, _, _, _, rfl⟩
  · rintro σ G8 H8 ⟨s8, E8, b6, b7, b8, b9, b10, b11, b12, b13, b14, rfl⟩
    have s68 := e7.gg.trans s8
    have hok : ∀ z ∈ namesW W, PyData.strOk z = true := fun z hz => isName_ok (hW.name hz)
    have hal : PySem.W.alike (.list ((namesW W).map .str)) (.list ((namesW W).map .str)) = true := by
      rw [PySem.W.alike]
      exact alike_map (fun _ _ => rfl) _ _
    have heqv : PyData.eqv (.list ((namesW W).map .str)) (.list ((namesW W).map .str)) = true := (eqv_alike hal hal).mpr rfl
    walk_at "nx"
    refine st_ret (Φ := PD K (.bool true)) E8.fr (eqD_ (d := .list ((namesW W).map .str)) (e := .list ((namesW W).map .str)) ((EvP.nd (ev_meth (Ψ := PN K ((namesW V').map .str)) (var_ (by rfl) ((PWeb CW V').mono s68 p56)) (pweb_ins (by decide)) eva_nil ⟨rfl, V', rfl, rfl⟩)).to (by rw [hV.nm])) (var_ (by rfl) (pn_d ((PN K ((namesW W).map .str)).mono s68 p6))) ((nz_strs hok).shaped (by decide)) ((nz_strs hok).shaped (by decide)) (by rw [heqv])) fun v9 H9 G9 e9 p9 => ?_
    rw [dp_bl p9]
    exact q _
end
end Fm
set_option maxHeartbeats 8000000
/-! FmTop: facts by names; all promises. Printed by gen3.py. -/
namespace Fm
open PySem PySem.Spec PyProof.Rows L2
section
variable {K : PySem.W.Frag} {h : Heap} {mg : Str → Option Value}
theorem at_of {x : Str} {st : Stmt} (c : He.SaysD fas dfs K) (X : K.In h) (G : h.Ns mainGlobals mg) (i j : Nat) (h1 : dfs[i]? = some ⟨(x, none), x, x, defArgs st, defBody st, defScope st, [], []⟩) (h2 : fas[j]? = some (.glo x)) : At K mg x st := by
  obtain ⟨fd, F⟩ := c.def_ i h1
  exact ⟨_, fd, F, He.glo_ok X G (c.fact j h2)⟩
theorem atm_of {cl m q : Str} {st : Stmt} (c : He.SaysD fas dfs K) (i j k : Nat) (h1 : dfs[i]? = some ⟨(cl, some m), m, q, defArgs st, defBody st, defScope st, [], []⟩) (h2 : fas[j]? = some (.cls cl)) (h3 : fas[k]? = some (.meth cl m)) : AtM K (He.ga K cl) m q st := by
  obtain ⟨fd, F⟩ := c.def_ i h1
  exact ⟨_, fd, F, He.cls_ok (c.fact j h2), He.meth_ok (c.fact k h3)⟩
theorem ati_of {cl q : Str} {st : Stmt} (c : He.SaysD fas dfs K) (X : K.In h) (G : h.Ns mainGlobals mg) (i j k : Nat) (h1 : dfs[i]? = some ⟨(cl, some "__init__"), "__init__", q, defArgs st, defBody st, defScope st, [], []⟩) (h2 : fas[j]? = some (.glo cl)) (h3 : fas[k]? = some (.mkr cl)) : AtI K mg cl (He.ga K cl) q st := by
  obtain ⟨fd, F⟩ := c.def_ i h1
  exact ⟨_, fd, F, He.mkr_ok (c.fact k h3), He.glo_ok X G (c.fact j h2)⟩
theorem str_rel {x z : Str} (h : ∃ t, mg x = some (.str z t)) : ∃ u, mg x = some u ∧ RelV (.str z) u := by
  obtain ⟨t, h⟩ := h
  exact ⟨_, h, t, rfl⟩
theorem int_rel {x : Str} {i : Int} (h : ∃ t, mg x = some (.int i t)) : ∃ u, mg x = some u ∧ RelV (.int i) u := by
  obtain ⟨t, h⟩ := h
  exact ⟨_, h, t, rfl⟩
theorem other_of (h : He.tupB K "OTHER_WORDS" othW = true) (H : Hp) : Dp K H (.ref (He.ga K "OTHER_WORDS")) (.tuple ((["any", "none", "blank", "new", "on"] : List Str).map .str)) :=
  Dp.tup (He.tupB_ok h H) (dpall_of_strs ["any", "none", "blank", "new", "on"])
theorem emp_of {a : Addr} (h : empT K a = true) (H : Hp) : Dp K H (.ref a) (.tuple []) := by
  unfold empT at h
  split at h
  · rename_i c od its n os e
    obtain ⟨h1, h2⟩ := He.ba h
    have hi : its = #[] := by simpa using h2
    subst hi
    exact Dp.tup (.inr ⟨_, #[], n, e, congrArg Value.type (of_decide_eq_true h1), rfl, Nat.zero_le _, .nil⟩) .nil
  · cases h
theorem any_of_head (h : anyT K = true) (H : Hp) : Dp K H (.ref (He.ga K "ANY")) (.tuple [.bool true, .tuple [], .tuple [], .tuple []]) := by
  unfold anyT at h
  split at h
  · rename_i c od its n os e
    obtain ⟨h1, h2⟩ := He.ba h
    split at h2
    · rename_i a b d hl
      obtain ⟨h3, h4⟩ := He.ba h2
      obtain ⟨h5, h6⟩ := He.ba h4
      have hs : its.size ≤ sizeLine := by
        rw [← Array.length_toList, hl]
        show 4 ≤ sizeLine
        decide
      exact Dp.tup (xs := [.bl true, .ref a, .ref b, .ref d]) (.inr ⟨_, its, n, e, congrArg Value.type (of_decide_eq_true h1), rfl, hs, by rw [hl]; exact .cons rfl (.cons rfl (.cons rfl (.cons rfl .nil)))⟩) (.cons (.bl true) (.cons (emp_of h3 H) (.cons (emp_of h5 H) (.cons (emp_of h6 H) .nil))))
    · cases h2
  · cases h
end

section
variable {K : PySem.W.Frag} {h : Heap} {mg : Str → Option Value}
theorem at_has_numbers (c : He.SaysD fas dfs K) (X : K.In h) (G : h.Ns mainGlobals mg) : At K mg "has_numbers" s_has_numbers := at_of c X G 0 0 rfl rfl
theorem at_greater_low (c : He.SaysD fas dfs K) (X : K.In h) (G : h.Ns mainGlobals mg) : At K mg "greater_low" s_greater_low := at_of c X G 1 1 rfl rfl
theorem at_lesser_high (c : He.SaysD fas dfs K) (X : K.In h) (G : h.Ns mainGlobals mg) : At K mg "lesser_high" s_lesser_high := at_of c X G 2 2 rfl rfl
theorem at_greater_high (c : He.SaysD fas dfs K) (X : K.In h) (G : h.Ns mainGlobals mg) : At K mg "greater_high" s_greater_high := at_of c X G 3 3 rfl rfl
theorem at_goes_on (c : He.SaysD fas dfs K) (X : K.In h) (G : h.Ns mainGlobals mg) : At K mg "goes_on" s_goes_on := at_of c X G 4 4 rfl rfl
theorem at_spans_formed (c : He.SaysD fas dfs K) (X : K.In h) (G : h.Ns mainGlobals mg) : At K mg "spans_formed" s_spans_formed := at_of c X G 5 5 rfl rfl
theorem at_spans_met (c : He.SaysD fas dfs K) (X : K.In h) (G : h.Ns mainGlobals mg) : At K mg "spans_met" s_spans_met := at_of c X G 6 6 rfl rfl
theorem at_gaps_of (c : He.SaysD fas dfs K) (X : K.In h) (G : h.Ns mainGlobals mg) : At K mg "gaps_of" s_gaps_of := at_of c X G 7 7 rfl rfl
theorem at_number_of (c : He.SaysD fas dfs K) (X : K.In h) (G : h.Ns mainGlobals mg) : At K mg "number_of" s_number_of := at_of c X G 8 8 rfl rfl
theorem at_spans_apart (c : He.SaysD fas dfs K) (X : K.In h) (G : h.Ns mainGlobals mg) : At K mg "spans_apart" s_spans_apart := at_of c X G 9 9 rfl rfl
theorem at_any_kind (c : He.SaysD fas dfs K) (X : K.In h) (G : h.Ns mainGlobals mg) : At K mg "any_kind" s_any_kind := at_of c X G 10 10 rfl rfl
theorem at_reformed (c : He.SaysD fas dfs K) (X : K.In h) (G : h.Ns mainGlobals mg) : At K mg "reformed" s_reformed := at_of c X G 11 11 rfl rfl
theorem at_outmost (c : He.SaysD fas dfs K) (X : K.In h) (G : h.Ns mainGlobals mg) : At K mg "outmost" s_outmost := at_of c X G 12 12 rfl rfl
theorem at_formed (c : He.SaysD fas dfs K) (X : K.In h) (G : h.Ns mainGlobals mg) : At K mg "formed" s_formed := at_of c X G 13 13 rfl rfl
theorem at_first_beyond (c : He.SaysD fas dfs K) (X : K.In h) (G : h.Ns mainGlobals mg) : At K mg "first_beyond" s_first_beyond := at_of c X G 14 14 rfl rfl
theorem at_inner_beyond (c : He.SaysD fas dfs K) (X : K.In h) (G : h.Ns mainGlobals mg) : At K mg "inner_beyond" s_inner_beyond := at_of c X G 15 15 rfl rfl
theorem at_within (c : He.SaysD fas dfs K) (X : K.In h) (G : h.Ns mainGlobals mg) : At K mg "within" s_within := at_of c X G 16 16 rfl rfl
theorem at_is_name (c : He.SaysD fas dfs K) (X : K.In h) (G : h.Ns mainGlobals mg) : At K mg "is_name" s_is_name := at_of c X G 17 17 rfl rfl
theorem at_are_figures (c : He.SaysD fas dfs K) (X : K.In h) (G : h.Ns mainGlobals mg) : At K mg "are_figures" s_are_figures := at_of c X G 18 18 rfl rfl
theorem at_read_number (c : He.SaysD fas dfs K) (X : K.In h) (G : h.Ns mainGlobals mg) : At K mg "read_number" s_read_number := at_of c X G 19 19 rfl rfl
theorem at_show_number (c : He.SaysD fas dfs K) (X : K.In h) (G : h.Ns mainGlobals mg) : At K mg "show_number" s_show_number := at_of c X G 20 20 rfl rfl
theorem at_cut (c : He.SaysD fas dfs K) (X : K.In h) (G : h.Ns mainGlobals mg) : At K mg "cut" s_cut := at_of c X G 21 21 rfl rfl
theorem at_inner_of (c : He.SaysD fas dfs K) (X : K.In h) (G : h.Ns mainGlobals mg) : At K mg "inner_of" s_inner_of := at_of c X G 22 22 rfl rfl
theorem at_read_end (c : He.SaysD fas dfs K) (X : K.In h) (G : h.Ns mainGlobals mg) : At K mg "read_end" s_read_end := at_of c X G 23 23 rfl rfl
theorem at_read_span (c : He.SaysD fas dfs K) (X : K.In h) (G : h.Ns mainGlobals mg) : At K mg "read_span" s_read_span := at_of c X G 24 24 rfl rfl
theorem at_Parts_init (c : He.SaysD fas dfs K) (X : K.In h) (G : h.Ns mainGlobals mg) : AtI K mg "Parts" (He.ga K "Parts") "Parts.__init__" s_Parts_init := ati_of c X G 25 57 84 rfl rfl rfl
theorem at_Parts_put (c : He.SaysD fas dfs K) : AtM K (He.ga K "Parts") "put" "Parts.put" s_Parts_put := atm_of c 26 82 92 rfl rfl rfl
theorem at_Parts_all_words (c : He.SaysD fas dfs K) : AtM K (He.ga K "Parts") "all_words" "Parts.all_words" s_Parts_all_words := atm_of c 27 82 93 rfl rfl rfl
theorem at_Parts_formed_by (c : He.SaysD fas dfs K) : AtM K (He.ga K "Parts") "formed_by" "Parts.formed_by" s_Parts_formed_by := atm_of c 28 82 94 rfl rfl rfl
theorem at_check_names (c : He.SaysD fas dfs K) (X : K.In h) (G : h.Ns mainGlobals mg) : At K mg "check_names" s_check_names := at_of c X G 29 25 rfl rfl
theorem at_read_kind (c : He.SaysD fas dfs K) (X : K.In h) (G : h.Ns mainGlobals mg) : At K mg "read_kind" s_read_kind := at_of c X G 30 26 rfl rfl
theorem at_show_span (c : He.SaysD fas dfs K) (X : K.In h) (G : h.Ns mainGlobals mg) : At K mg "show_span" s_show_span := at_of c X G 31 27 rfl rfl
theorem at_show_kind (c : He.SaysD fas dfs K) (X : K.In h) (G : h.Ns mainGlobals mg) : At K mg "show_kind" s_show_kind := at_of c X G 32 28 rfl rfl
theorem at_look_at_names (c : He.SaysD fas dfs K) (X : K.In h) (G : h.Ns mainGlobals mg) : At K mg "look_at_names" s_look_at_names := at_of c X G 33 29 rfl rfl
theorem at_in_rings (c : He.SaysD fas dfs K) (X : K.In h) (G : h.Ns mainGlobals mg) : At K mg "in_rings" s_in_rings := at_of c X G 34 30 rfl rfl
theorem at_look_for_rings (c : He.SaysD fas dfs K) (X : K.In h) (G : h.Ns mainGlobals mg) : At K mg "look_for_rings" s_look_for_rings := at_of c X G 35 31 rfl rfl
theorem at_Web_init (c : He.SaysD fas dfs K) (X : K.In h) (G : h.Ns mainGlobals mg) : AtI K mg "Web" (He.ga K "Web") "Web.__init__" s_Web_init := ati_of c X G 36 58 85 rfl rfl rfl
theorem at_Web_names (c : He.SaysD fas dfs K) : AtM K (He.ga K "Web") "names" "Web.names" s_Web_names := atm_of c 37 83 96 rfl rfl rfl
theorem at_Web_over (c : He.SaysD fas dfs K) : AtM K (He.ga K "Web") "over" "Web.over" s_Web_over := atm_of c 38 83 97 rfl rfl rfl
theorem at_Web_above (c : He.SaysD fas dfs K) : AtM K (He.ga K "Web") "above" "Web.above" s_Web_above := atm_of c 39 83 98 rfl rfl rfl
theorem at_Web_beneath (c : He.SaysD fas dfs K) : AtM K (He.ga K "Web") "beneath" "Web.beneath" s_Web_beneath := atm_of c 40 83 99 rfl rfl rfl
theorem at_Web_tops (c : He.SaysD fas dfs K) : AtM K (He.ga K "Web") "tops" "Web.tops" s_Web_tops := atm_of c 41 83 100 rfl rfl rfl
theorem at_read_name (c : He.SaysD fas dfs K) (X : K.In h) (G : h.Ns mainGlobals mg) : At K mg "read_name" s_read_name := at_of c X G 42 32 rfl rfl
theorem at_read_over (c : He.SaysD fas dfs K) (X : K.In h) (G : h.Ns mainGlobals mg) : At K mg "read_over" s_read_over := at_of c X G 43 33 rfl rfl
theorem at_read_tuple (c : He.SaysD fas dfs K) (X : K.In h) (G : h.Ns mainGlobals mg) : At K mg "read_tuple" s_read_tuple := at_of c X G 44 34 rfl rfl
theorem at_read_web (c : He.SaysD fas dfs K) (X : K.In h) (G : h.Ns mainGlobals mg) : At K mg "read_web" s_read_web := at_of c X G 45 35 rfl rfl
theorem at_show_tuple (c : He.SaysD fas dfs K) (X : K.In h) (G : h.Ns mainGlobals mg) : At K mg "show_tuple" s_show_tuple := at_of c X G 46 36 rfl rfl
theorem at_show_web (c : He.SaysD fas dfs K) (X : K.In h) (G : h.Ns mainGlobals mg) : At K mg "show_web" s_show_web := at_of c X G 47 37 rfl rfl
theorem at_Lcell (c : He.SaysD fas dfs K) (X : K.In h) (G : h.Ns mainGlobals mg) : At K mg "_law_cell" s_Lcell := at_of c X G 48 38 rfl rfl
theorem at_Ltake (c : He.SaysD fas dfs K) (X : K.In h) (G : h.Ns mainGlobals mg) : At K mg "_law_take" s_Ltake := at_of c X G 49 39 rfl rfl
theorem at_Lname (c : He.SaysD fas dfs K) (X : K.In h) (G : h.Ns mainGlobals mg) : At K mg "_law_name" s_Lname := at_of c X G 50 40 rfl rfl
theorem at_Ltuples (c : He.SaysD fas dfs K) (X : K.In h) (G : h.Ns mainGlobals mg) : At K mg "_law_tuples" s_Ltuples := at_of c X G 51 41 rfl rfl
theorem at_Lups (c : He.SaysD fas dfs K) (X : K.In h) (G : h.Ns mainGlobals mg) : At K mg "_law_ups" s_Lups := at_of c X G 52 42 rfl rfl
theorem at_Lnumber (c : He.SaysD fas dfs K) (X : K.In h) (G : h.Ns mainGlobals mg) : At K mg "_law_number" s_Lnumber := at_of c X G 53 43 rfl rfl
theorem at_Lspan (c : He.SaysD fas dfs K) (X : K.In h) (G : h.Ns mainGlobals mg) : At K mg "_law_span" s_Lspan := at_of c X G 54 44 rfl rfl
theorem at_Lpart (c : He.SaysD fas dfs K) (X : K.In h) (G : h.Ns mainGlobals mg) : At K mg "_law_part" s_Lpart := at_of c X G 55 45 rfl rfl
theorem at_Lend (c : He.SaysD fas dfs K) (X : K.In h) (G : h.Ns mainGlobals mg) : At K mg "_law_end" s_Lend := at_of c X G 56 46 rfl rfl
theorem at_Lpart_text (c : He.SaysD fas dfs K) (X : K.In h) (G : h.Ns mainGlobals mg) : At K mg "_law_part_text" s_Lpart_text := at_of c X G 57 47 rfl rfl
theorem at_Ltext (c : He.SaysD fas dfs K) (X : K.In h) (G : h.Ns mainGlobals mg) : At K mg "_law_text" s_Ltext := at_of c X G 58 48 rfl rfl
theorem at_Ltops (c : He.SaysD fas dfs K) (X : K.In h) (G : h.Ns mainGlobals mg) : At K mg "_law_tops" s_Ltops := at_of c X G 59 49 rfl rfl
theorem at_Lmerged (c : He.SaysD fas dfs K) (X : K.In h) (G : h.Ns mainGlobals mg) : At K mg "_law_merged" s_Lmerged := at_of c X G 60 50 rfl rfl
theorem at_Lcovers (c : He.SaysD fas dfs K) (X : K.In h) (G : h.Ns mainGlobals mg) : At K mg "_law_covers" s_Lcovers := at_of c X G 61 51 rfl rfl
theorem at_Llies (c : He.SaysD fas dfs K) (X : K.In h) (G : h.Ns mainGlobals mg) : At K mg "_law_lies" s_Llies := at_of c X G 62 52 rfl rfl
theorem at_Louter (c : He.SaysD fas dfs K) (X : K.In h) (G : h.Ns mainGlobals mg) : At K mg "_law_outer" s_Louter := at_of c X G 63 53 rfl rfl
theorem at_Lkind (c : He.SaysD fas dfs K) (X : K.In h) (G : h.Ns mainGlobals mg) : At K mg "_law_kind" s_Lkind := at_of c X G 64 54 rfl rfl
theorem at_Lshown (c : He.SaysD fas dfs K) (X : K.In h) (G : h.Ns mainGlobals mg) : At K mg "_law_shown" s_Lshown := at_of c X G 65 55 rfl rfl
theorem at_law (c : He.SaysD fas dfs K) (X : K.In h) (G : h.Ns mainGlobals mg) : At K mg "law" s_law := at_of c X G 66 56 rfl rfl
theorem zs_of (c : He.SaysD fas dfs K) (X : K.In h) (G : h.Ns mainGlobals mg) : Zs mg where
  any := He.free_ok X G (c.fact 65 (f := .free "any") rfl)
  all := He.free_ok X G (c.fact 66 (f := .free "all") rfl)
  sorted := He.free_ok X G (c.fact 63 (f := .free "sorted") rfl)
  set := He.free_ok X G (c.fact 64 (f := .free "set") rfl)
  tuple := He.free_ok X G (c.fact 67 (f := .free "tuple") rfl)
  list := He.free_ok X G (c.fact 68 (f := .free "list") rfl)
  str := He.free_ok X G (c.fact 70 (f := .free "str") rfl)
  int := He.free_ok X G (c.fact 71 (f := .free "int") rfl)
  dict := He.free_ok X G (c.fact 69 (f := .free "dict") rfl)
  max := He.free_ok X G (c.fact 73 (f := .free "max") rfl)
  min := He.free_ok X G (c.fact 74 (f := .free "min") rfl)
  repr := He.free_ok X G (c.fact 76 (f := .free "repr") rfl)
  isinstance := He.free_ok X G (c.fact 72 (f := .free "isinstance") rfl)
  len := He.free_ok X G (c.fact 61 (f := .free "len") rfl)
  range := He.free_ok X G (c.fact 62 (f := .free "range") rfl)
  enumerate := He.free_ok X G (c.fact 75 (f := .free "enumerate") rfl)
theorem wcls_of (c : He.SaysD fas dfs K) : WCls K (He.ga K "Web") := ⟨He.cls_ok (c.fact 83 (f := .cls "Web") rfl), He.noat_ok (c.fact 90 (f := .noat "Web" "uppers") rfl)⟩
theorem pcls_of (c : He.SaysD fas dfs K) : PCls K (He.ga K "Parts") := ⟨He.cls_ok (c.fact 82 (f := .cls "Parts") rfl), He.noat_ok (c.fact 86 (f := .noat "Parts" "whole") rfl), He.noat_ok (c.fact 87 (f := .noat "Parts" "words") rfl), He.noat_ok (c.fact 88 (f := .noat "Parts" "stretches") rfl), He.noat_ok (c.fact 89 (f := .noat "Parts" "within_it") rfl)⟩
theorem cs_of (c : SaysY K) (X : K.In h) (G : h.Ns mainGlobals mg) : Cs K mg where
  LETTERS := str_rel (He.str_ok X G (c.d.fact 80 (f := .str "LETTERS" "abcdefghijklmnopqrstuvwxyz") rfl))
  FIGURES := str_rel (He.str_ok X G (c.d.fact 81 (f := .str "FIGURES" "0123456789") rfl))
  MOST_LETTERS := int_rel (He.int_ok X G (c.d.fact 77 (f := .int "MOST_LETTERS" 8) rfl))
  MOST_FIGURES := int_rel (He.int_ok X G (c.d.fact 78 (f := .int "MOST_FIGURES" 60) rfl))
  MOST_ROWS := int_rel (He.int_ok X G (c.d.fact 79 (f := .int "MOST_ROWS" 3) rfl))
  OTHER_WORDS := ⟨He.ga K "OTHER_WORDS", ⟨_, He.glo_ok X G (c.d.fact 60 (f := .glo "OTHER_WORDS") rfl), rfl⟩, other_of (He.ba c.more).1⟩
  ANY := ⟨He.ga K "ANY", ⟨_, He.glo_ok X G (c.d.fact 59 (f := .glo "ANY") rfl), rfl⟩, any_of_head (He.ba c.more).2⟩
end
section
variable {P : Program} {w : World} {K : PySem.W.Frag} {h : Heap} {mg : Str → Option Value} {base : Heap}
/-- the law's body, by the head's facts -/
theorem law_body (c : SaysY K) (X : K.In h) (G : h.Ns mainGlobals mg) (f : Addr) (cdv : Value) (A : Around) (outer : List Env) (s : Shared) (H : Hp) (a : Addr) (ns : List Int) (Q : VK) (E : XK) (hr : Room 20 (A.deeper (envOfC "law" (defScope s_law) s.heap.objs.size f cdv))) (hg : (A.deeper (envOfC "law" (defScope s_law) s.heap.objs.size f cdv)).guards = some [])
    (hS : SqL K H a (ns.map V.int)) (hl : ns.length ≤ 63) (q : ∀ H', Q (.bl true) H') :
    ∃ t, PSs (cxOf CX0 P w K mg base n_law "law" (defScope s_law) f cdv A outer s H E).nox (defBody s_law) t ∧ t { nx := fun _ H' => Q .non H', rt := Q } (start n_law [.ref a]) H := by
  have d := c.d
  have Z := zs_of d X G
  have C := cs_of c X G
  have hW := wcls_of d
  have hP := pcls_of d
  have i1 : Def P w K mg base 1 "is_name" ["thing"] (FnR K 1 R_is_name) := ok_is_name Z C (at_is_name d X G)
  have w1 : MDef P w K mg base 1 (He.ga K "Web") "names" ["self"] (Fn (S_names K (He.ga K "Web"))) := ok_Web_names Z hW (at_Web_names d)
  have w2 := ok_Web_init (P := P) (w := w) (base := base) Z hW (ok_look_at_names Z i1 (at_look_at_names d X G)) (ok_look_for_rings Z (ok_in_rings Z (at_in_rings d X G)) (at_look_for_rings d X G)) (at_Web_init d X G)
  have w3 := ok_Web_beneath (P := P) (w := w) (mg := mg) (base := base) Z hW (ok_Web_above Z hW (at_Web_above d)) (at_Web_beneath d)
  have w4 := ok_Web_tops (P := P) (w := w) (mg := mg) (base := base) Z hW w3 (at_Web_tops d)
  have n1 := ok_read_name (P := P) (w := w) (base := base) i1 (at_read_name d X G)
  have n2 := ok_read_tuple n1 (ok_read_over n1 (at_read_over d X G)) (at_read_tuple d X G)
  have n3 := ok_read_web n2 w2 (at_read_web d X G)
  have n4 := ok_show_web w1 (ok_show_tuple (ok_Web_over Z hW (at_Web_over d)) (at_show_tuple d X G)) (at_show_web d X G)
  have s1 := ok_spans_formed (P := P) (w := w) (base := base) Z (ok_has_numbers (at_has_numbers d X G)) (ok_goes_on (at_goes_on d X G)) (ok_greater_high Z (at_greater_high d X G)) (at_spans_formed d X G)
  have s2 := ok_spans_met Z (ok_greater_low Z (at_greater_low d X G)) (ok_lesser_high Z (at_lesser_high d X G)) s1 (at_spans_met d X G)
  have s3 := ok_spans_apart s2 (ok_gaps_of (at_gaps_of d X G)) s1 (ok_number_of (at_number_of d X G)) (at_spans_apart d X G)
  have k1 := ok_within Z (ok_first_beyond Z w3 (at_first_beyond d X G)) s3 (at_inner_beyond d X G) (at_within d X G)
  have k2 := ok_forms C Z w4 s1 k1 (at_outmost d X G) (at_formed d X G) (at_reformed d X G)
  have k3 := ok_any_kind (P := P) (w := w) (base := base) C (at_any_kind d X G)
  have r1 := ok_read_number (P := P) (w := w) (base := base) Z (ok_are_figures Z C (at_are_figures d X G)) (at_read_number d X G)
  have r2 := ok_read_span r1 (ok_read_end r1 (at_read_end d X G)) (at_read_span d X G)
  have p1 := ok_Parts Z hP (ok_cut Z (at_cut d X G)) i1 (ok_inner_of C (at_inner_of d X G)) r2 (at_Parts_init d X G) (at_Parts_put d)
  have p2 := ok_all_wordss (P := P) (w := w) (mg := mg) (base := base) Z hP (at_Parts_all_words d)
  have p3 := ok_formed_bys hP k3 (fun n hn => (k2 n hn).2) (at_Parts_formed_by d)
  have p4 := ok_read_kind (p1 4) (p2 4) (p3 4 (Nat.le_refl 4)) (ok_check_names w1 (at_check_names d X G)) (at_read_kind d X G)
  have p5 := ok_show_kinds (P := P) (w := w) (base := base) Z (ok_show_span (ok_show_number Z (at_show_number d X G)) (at_show_span d X G)) (at_show_kind d X G)
  have l1 := ok_Lcell (P := P) (w := w) (base := base) Z (at_Lcell d X G)
  have l2 := ok_Ltake (P := P) (w := w) (base := base) Z (at_Ltake d X G)
  have l3 := ok_Ltuples Z l2 l1 (ok_Lname Z l2 (at_Lname d X G)) (at_Ltuples d X G)
  have l4 := ok_Lups (P := P) (w := w) (base := base) Z (at_Lups d X G)
  have l5 := ok_Lparts Z l2 (ok_Lspan Z l2 (ok_Lnumber Z l2 (at_Lnumber d X G)) (at_Lspan d X G)) (at_Lpart d X G)
  have l6 := ok_Ltexts (P := P) (w := w) (base := base) Z (ok_Lend Z (at_Lend d X G)) (at_Lpart_text d X G) (at_Ltext d X G)
  have l7 := ok_Lliess (P := P) (w := w) (base := base) Z (ok_Lcovers (at_Lcovers d X G)) (at_Llies d X G)
  have l8 : ∀ n ≤ 3, Def P w K mg base (2 + n) "_law_outer" ["_law_some", "_law_ups_here"] (Fn (S_Louter K n)) := fun n hn => (ok_Louter hn Z (l7 n (by omega)) (at_Louter d X G)).mono (by omega)
  have l9 := ok_Lkinds Z (ok_Ltops Z (at_Ltops d X G)) (ok_Lmerged Z (at_Lmerged d X G)) l8 (at_Lkind d X G)
  have l10 := ok_Lshowns Z (l6 1).1 (at_Lshown d X G)
  exact ok_law Z l1 l2 l3 l4 w2 n3 n4 (l5 4) (l9 4 (Nat.le_refl 4)) p4 (l6 4).2 (p5 4) (l10 4) w1 f cdv A outer s H a ns Q E hr hg hS hl q
/-- a def without refusals, entered where nothing is being shown -/
theorem run_def {CX : CXT} {x qual : Str} {st : Stmt} {N ps : List Str} {f : Addr} {fd : FuncData} {A : Around} {outer : List Env} {s : Shared} {H : Hp} {args : Args} {us : List Value} {vs : List V} {Q : VK} {E : XK} {k : Nat}
    (F : FunD K x qual (defArgs st) (defBody st) (defScope st) [] [] f fd) (S : FnScope N ps (defScope st)) (hlen : vs.length = ps.length) (hr : Room (k + 1) A) (e0 : Env0 P w K mg base A outer s H) (hb : BindsTo s fd args (ps.zip us)) (rv : Vals vs us)
    (body : ∀ cdv, Room k (A.deeper (envOfC qual (defScope st) s.heap.objs.size f cdv)) → ∃ t, PSs (cxOf CX P w K mg base N qual (defScope st) f cdv A outer s H E) (defBody st) t ∧ t { nx := fun _ H' => Q .non H', rt := Q } (start N vs) H) :
    codeAny (model P w) A (.call (.ref f) args) (CR CX outer P w H s Q E) s := by
  obtain ⟨oc, od, dV, kV, doc, pm, an, cdv, ct, osl, rfl, lk, hcd, _, _⟩ := F.ex
  have up : ∀ b o, base.get? b = some o → s.heap.get? b = some o := fun b o e => (e0.bs b o e).1
  have KX : K.In s.heap := e0.mod.kin.keeps up
  have nl := e0.mod.nolimit.keeps up
  have kinds : ∀ y ∈ ps.zip us, (defScope st).names.lookup y.1 = some .local ∨ ((defScope st).names.lookup y.1 = some .cell ∧ ((cellsFrom (s.heap.objs.size + 1) (defScope st).names []).lookup y.1).isSome = true) := by
    rintro ⟨n, v⟩ hy
    cases S.par n (List.of_mem_zip hy).1 with
    | inl z => exact .inl z
    | inr z => exact .inr ⟨z, PySem.W.cellsFrom_some _ _ _ (.inl z)⟩
  refine codeAny_call_function hr.depth (KX _ _ lk) rfl S.co S.gen rfl (PySem.W.codeRec_of KX hcd) (hb _ _ _ _ ?_)
  refine wpAny_newFunctionEnv_cells S.kind kinds fun env he s1 x => ?_
  subst he
  refine ⟨nl.keeps x.toInCall.keep, codeAny_func ?_⟩
  obtain ⟨t, ht, hq⟩ := body cdv (hr.deeper _)
  have I : Inv (cxOf CX P w K mg base N qual (defScope st) f cdv A outer s H E) [] (start N vs) H s1 := inv_start S hr.hd e0 hlen rv x
  refine wpAny_mono (ht.run [] s1 (start N vs) H _ I hq) (fun fl s' hs => ?_) fun _ _ hs => hs
  cases fl with
  | next =>
    obtain ⟨σ', H', J, z⟩ := hs
    exact ⟨V.non, H', J.os, J.bare, J.base, J.hok, rfl, z⟩
  | ret u =>
    obtain ⟨v, σ', H', J, r, z⟩ := hs
    exact ⟨v, H', J.os, J.bare, J.base, J.hok, r, z⟩
  | brk =>
    obtain ⟨_, _, _, z⟩ := hs
    cases z
  | cont =>
    obtain ⟨_, _, _, z⟩ := hs
    cases z
end
/-- nothing is told but the script -/
structure Told (P : Program) (w : World) (K : PySem.W.Frag) (s : Shared) (a : Addr) (H : Hp) : Prop where
  ok : HOk P w H s.heap
  one : ∀ b, H b ≠ none → b = a
  free : H a ≠ none → K.lookup a = none
  fz : ∀ b, H b = none ∨ ∃ o xs, H b = some (.frz o (.lst xs))
section
variable {P : Program} {w : World} {K : PySem.W.Frag} {mg mb : Str → Option Value} {s : Shared} {a : Addr} {vs : List Value} {ns : List Int} {H : Hp}
theorem told_env (T : Told P w K s a H) (KX : K.In s.heap) (gm : s.heap.Ns mainGlobals mg) (gb : s.heap.Ns builtinsNs mb) (bb : ∀ x : Str, x ≠ "__name__" → mb x = bootBuiltins x) (nl : s.heap.NoLimit) (gs : s.gens = #[]) (sc : s.heap.get? a = some { cls := .type "list", data := .seq vs.toArray }) :
    K.In (hidT s.heap H) ∧ (hidT s.heap H).Ns mainGlobals mg ∧ Env0 P w K mg (hidT s.heap H) callerA [] s H := by
  have stay : ∀ {b : Addr} {m : Str → Option Value}, s.heap.Ns b m → (hidT s.heap H).Ns b m := by
    rintro b m ⟨o, es, ep, e, d, r⟩
    refine ⟨o, es, ep, hidT_get e ?_, d, r⟩
    refine Classical.byContradiction fun z => ?_
    rw [T.one b z, sc] at e
    cases e
    cases d
  have kin : K.In (hidT s.heap H) := fun b o e => hidT_get (KX b o e) (Classical.byContradiction fun z => by
    have eb := T.one b z
    rw [eb] at z e
    rw [T.free z] at e
    cases e)
  have nl2 : (hidT s.heap H).NoLimit := by
    obtain ⟨mc, h1, h2⟩ := nl
    exact ⟨mc, stay h1, h2⟩
  refine ⟨kin, stay gm, ?_⟩
  exact { frames := rfl, mod := ⟨kin, stay gm, ⟨mb, stay gb, bb⟩, nl2⟩, bs := fun b o e => of_hidT e, bsz := Nat.le_of_eq (hidT_size s.heap H), funs := trivial, frf := fun b hb => (nomatch hb), hok := T.ok, bare := .of_eq gs }
theorem told_is (P : Program) (w : World) (KX : K.In s.heap) (sc : s.heap.get? a = some { cls := .type "list", data := .seq vs.toArray }) (hi : IntsAre vs ns) (hl : ns.length ≤ sizeLine) : ∃ H, Told P w K s a H ∧ SqL K H a (ns.map V.int) := by
  have rv := vals_ints hi
  cases hk : K.lookup a with
  | some o =>
    have e := KX a o hk
    rw [sc] at e
    cases e
    refine ⟨fun _ => none, ⟨fun b u z => (nomatch (show (none : Option HO) = some u from z)), fun b z => absurd rfl z, fun z => absurd rfl z, fun _ => .inl rfl⟩, .inr ⟨_, vs.toArray, _, hk, rfl, rfl, rfl, ?_, ?_⟩⟩
    · rw [List.size_toArray, hi.length]; exact hl
    · simpa using rv
  | none =>
    let u : HO := .frz { cls := .type "list", data := .seq vs.toArray } (.lst (ns.map V.int))
    have h1 : ∀ b, (if b = a then some u else none) ≠ none → b = a := fun b z => Classical.byContradiction fun n => z (if_neg n)
    refine ⟨fun b => if b = a then some u else none, ⟨fun b x z => ?_, h1, fun _ => hk, fun b => ?_⟩, .inl (.inr ⟨_, if_pos rfl⟩)⟩
    · have hb : b = a := h1 b (by rw [show (if b = a then some u else none) = some x from z]; exact fun y => nomatch y)
      have z2 : u = x := Option.some.inj ((if_pos hb).symm.trans z)
      subst hb
      rw [← z2]
      exact ⟨sc, by rw [List.length_map]; exact hl, vs, _, rv, sc⟩
    · by_cases hb : b = a
      · exact .inr ⟨_, _, if_pos hb⟩
      · exact .inl (if_neg hb)
theorem told_end {r : Result} {s' : Shared} (T : Told P w K s a H) (h : CR CX0 [] P w H s (fun v _ => v = .bl true) E0 r s') : r = .ok (.ret (.bool true)) ∧ OldK s.heap s'.heap ∧ s'.os = s.os ∧ AllBare s'.gens := by
  match r, h with
  | .error e, h => exact False.elim h
  | .ok (.ret u), h =>
    obtain ⟨v, H', ho, hb, un, ok2, rv, qv⟩ := h
    have qv : v = .bl true := qv
    subst qv
    have ru : u = .bool true := rv
    subst ru
    refine ⟨rfl, .of_keep fun b o e => ?_, ho, hb⟩
    rcases T.fz b with z | ⟨ob, xs, z⟩
    · exact un.keep b o e z (fun n => nomatch n) (fun n => nomatch n)
    · obtain ⟨g1, _⟩ := T.ok b _ z
      obtain ⟨g2, _⟩ := ok2 b _ (un.frzs b ob _ z)
      rw [e] at g1
      cases g1
      exact g2
  | .ok .next, h => exact False.elim h
  | .ok .brk, h => exact False.elim h
  | .ok .cont, h => exact False.elim h
end
section
variable {P : Program} {w : World} {K : PySem.W.Frag} {mg mb : Str → Option Value} {s : Shared} {a fa : Addr} {vs : List Value} {ns : List Int}
theorem law_top (c : SaysY K) (KX : K.In s.heap) (gm : s.heap.Ns mainGlobals mg) (gb : s.heap.Ns builtinsNs mb) (bb : ∀ x : Str, x ≠ "__name__" → mb x = bootBuiltins x) (nl : s.heap.NoLimit) (gs : s.gens = #[]) (sc : s.heap.get? a = some { cls := .type "list", data := .seq vs.toArray })
    (hi : IntsAre vs ns) (hl : ns.length ≤ 63) (hf : mg "law" = some (.ref fa)) : codeAny (model P w) callerA (.call (.ref fa) ⟨[.ref a], []⟩) (fun r s' => r = .ok (.ret (.bool true)) ∧ OldK s.heap s'.heap ∧ s'.os = s.os ∧ AllBare s'.gens) s := by
  obtain ⟨H, T, hS⟩ := told_is (s := s) P w KX sc hi (Nat.le_trans hl (by decide))
  obtain ⟨k1, k2, env⟩ := told_env T KX gm gb bb nl gs sc
  obtain ⟨f, fd, F, hf2⟩ := (at_law c.d KX gm).ex
  rw [hf] at hf2
  cases hf2
  have hb : ∀ (s : Shared) (u : Value), BindsTo s fd ⟨[u], []⟩ [("_law_script", u)] := fun s u => FunD.bindsA (ps := ["_law_script"]) F (fun _ _ _ _ _ _ us hl => match us, hl with | [_], _ => rfl) s [u] rfl
  refine codeAny_mono (run_def (k := 20) (us := [.ref a]) (vs := [.ref a]) (Q := fun v _ => v = .bl true) (E := E0) (CX := CX0) F sc_law rfl ⟨rfl, by decide, by decide⟩ env (hb s (.ref a)) (.cons rfl .nil) fun cdv hr => ?_) fun r s' h => told_end T h
  obtain ⟨t, h1, h2⟩ := law_body (P := P) (w := w) (base := hidT s.heap H) c k1 k2 fa cdv callerA [] s H a ns (fun v _ => v = .bl true) E0 hr rfl hS hl fun _ => rfl
  exact ⟨t, PSs.nox h1, h2⟩
end

end Fm
open PySem PySem.W PySem.Calls PyProof.Rows
set_option maxRecDepth 100000 in
set_option maxHeartbeats 0 in
theorem PySem.Challenge.cw_fitmost_k32_whole_kinds_written_holds : PySem.Challenge.rw_fitmost_k32_whole_kinds_written.Holds := by
  w_on; o_law
  refine HandSHeadRun.head_any (r := Fm.RR) (q := view Fm.RR.prog [81]) (H := Fm.hkx) (ob := Fm.obx) (M := 6000) (loose := Fm.loo) (d := HandSHeadRun.topDef Fm.RR.prog 81) (kwd := []) Fm.obx_eq
    (by kernel_rfl) (fun s => by kernel_rfl) Fm.runx (by kernel_rfl) (by kernel_rfl) (by kernel_rfl) (by rfl) (by first | assumption | decide +kernel) (by decide +kernel) ⟨rfl, rfl, rfl, rfl, rfl, by decide +kernel⟩ ?hw ?hc
  case hw => w_witness2
  case hc =>
    refine Att.attach_call (l := PySem.Challenge.rw_fitmost_k32_whole_kinds_written) (n := 63) rfl (by kernel_rfl) fun w s₀ s₁ mg mb fa o pm cd doc a vs ns G Y ho hd hcd hmg hobj hints hlen hg => ?_
    obtain ⟨K, KX, c⟩ := Y
    have hmg : mg ("law" : PySem.Str) = some (.ref fa) := by
      have e : (HandSHeadRun.topDef Fm.RR.prog 81).name = ("law" : PySem.Str) := by kernel_rfl
      rw [← e]
      exact hmg
    exact Fm.law_top c KX G.T.g G.T.b G.T.builtins G.T.nolimit hg hobj hints hlen hmg
