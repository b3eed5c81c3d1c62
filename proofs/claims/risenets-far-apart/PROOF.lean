import PyProof.Rows.All
import Wide.All
import OpenK.AllK
import Wide.FinOn
import PySem.Challenge.RW_risenets_k32_whole_how_far_apart
import HandS.ForMost
import KE.KSuper
import KE.KExcInit
import HandS.HeadHook4
import KE.KStateDown
import HandS.Defaults
import HandS.EndTab
import HandS.Head0
import HandS.Head1
import HandS.Head2
import HandS.HeadEnd
import HandS.HeadHook1
import HandS.HeadHook2
import HandS.HeadHook3
import HandS.HeadWalk
import HandS.Slots
import HandS.SlotsOwn
import HandS.IsInst
import HandS.TupAny
import HandS.Wide
import HandS.Zip
import HandS.Style
import HandS.RaiseMore
import HandS.Lambda
import KE.GoesEnum
import KE.KDictZip
import KE.GoesMore
import KE.DataEq
import HandS.Small
import KE.KDictPairs
import PyProof.ReprRoads
import KE.KIntText
import PyProof.Rows.ReprOcc
import PyProof.StrLawsRepr
import HandS.SetFor
import HandS.Strs
import KE.KExcSuper
import HandS.Exc
import HandS.ExcField
import HandS.ExcInit
import HandS.Conv
section
set_option Elab.async false
set_option linter.all false
set_option maxRecDepth 100000
namespace RN
open PySem L2
def topS (i : Nat) : Stmt := PySem.Challenge.pw_risenets_k32_whole_how_far_apart.main.body.getD i (.Pass ⟨0, 0, 0, 0⟩)
abbrev s_InvalidNumber_init : Stmt := inClass (topS 4) 0
abbrev n_InvalidNumber_init : List Str := ["self", "given"]
abbrev s_Refused_init : Stmt := inClass (topS 5) 0
abbrev n_Refused_init : List Str := ["self", "reason"]
abbrev s_is_whole : Stmt := topS 8
abbrev n_is_whole : List Str := ["value"]
theorem sc_is_whole : FnScope n_is_whole ["value"] (defScope s_is_whole) := ⟨rfl, rfl, rfl, by decide +kernel, rfl, by decide +kernel, by decide +kernel⟩
abbrev s_is_integer : Stmt := topS 9
abbrev n_is_integer : List Str := ["value"]
theorem sc_is_integer : FnScope n_is_integer ["value"] (defScope s_is_integer) := ⟨rfl, rfl, rfl, by decide +kernel, rfl, by decide +kernel, by decide +kernel⟩
abbrev s_is_within : Stmt := topS 10
abbrev n_is_within : List Str := ["value", "least", "most"]
theorem sc_is_within : FnScope n_is_within ["value", "least", "most"] (defScope s_is_within) := ⟨rfl, rfl, rfl, by decide +kernel, rfl, by decide +kernel, by decide +kernel⟩
abbrev s_is_near : Stmt := topS 11
abbrev n_is_near : List Str := ["value", "size"]
theorem sc_is_near : FnScope n_is_near ["value", "size"] (defScope s_is_near) := ⟨rfl, rfl, rfl, by decide +kernel, rfl, by decide +kernel, by decide +kernel⟩
abbrev s_other_kind : Stmt := topS 20
abbrev n_other_kind : List Str := ["kind"]
theorem sc_other_kind : FnScope n_other_kind ["kind"] (defScope s_other_kind) := ⟨rfl, rfl, rfl, by decide +kernel, rfl, by decide +kernel, by decide +kernel⟩
abbrev s_is_point : Stmt := topS 21
abbrev n_is_point : List Str := ["value", "number"]
theorem sc_is_point : FnScope n_is_point ["value"] (defScope s_is_point) := ⟨rfl, rfl, rfl, by decide +kernel, rfl, by decide +kernel, by decide +kernel⟩
abbrev s_are_corners : Stmt := topS 22
abbrev n_are_corners : List Str := ["first", "value", "kind", "one", "other", "same", "more"]
theorem sc_are_corners : FnScope n_are_corners ["first", "value"] (defScope s_are_corners) := ⟨rfl, rfl, rfl, by decide +kernel, rfl, by decide +kernel, by decide +kernel⟩
abbrev s_is_rise : Stmt := topS 23
abbrev n_is_rise : List Str := ["value"]
theorem sc_is_rise : FnScope n_is_rise ["value"] (defScope s_is_rise) := ⟨rfl, rfl, rfl, by decide +kernel, rfl, by decide +kernel, by decide +kernel⟩
abbrev s_is_small_rise : Stmt := topS 30
abbrev n_is_small_rise : List Str := ["value", "corner", "one"]
theorem sc_is_small_rise : FnScope n_is_small_rise ["value"] (defScope s_is_small_rise) := ⟨rfl, rfl, rfl, by decide +kernel, rfl, by decide +kernel, by decide +kernel⟩
abbrev s_is_wire : Stmt := topS 31
abbrev n_is_wire : List Str := ["knots", "value", "end"]
theorem sc_is_wire : FnScope n_is_wire ["knots", "value"] (defScope s_is_wire) := ⟨rfl, rfl, rfl, by decide +kernel, rfl, by decide +kernel, by decide +kernel⟩
abbrev s_are_parts : Stmt := topS 32
abbrev n_are_parts : List Str := ["knots", "wires", "wire"]
theorem sc_are_parts : FnScope n_are_parts ["knots", "wires"] (defScope s_are_parts) := ⟨rfl, rfl, rfl, by decide +kernel, rfl, by decide +kernel, by decide +kernel⟩
abbrev s_Parts_init : Stmt := inClass (topS 33) 1
abbrev n_Parts_init : List Str := ["self", "knots", "wires"]
theorem sc_Parts_init : FnScope n_Parts_init ["self", "knots", "wires"] (defScope s_Parts_init) := ⟨rfl, rfl, rfl, by decide +kernel, rfl, by decide +kernel, by decide +kernel⟩
abbrev s_Net_init : Stmt := inClass (topS 34) 1
abbrev n_Net_init : List Str := ["self", "knots", "wires"]
theorem sc_Net_init : FnScope n_Net_init ["self", "knots", "wires"] (defScope s_Net_init) := ⟨rfl, rfl, rfl, by decide +kernel, rfl, by decide +kernel, by decide +kernel⟩
abbrev s_Net_knots : Stmt := inClass (topS 34) 2
abbrev n_Net_knots : List Str := ["self"]
theorem sc_Net_knots : FnScope n_Net_knots ["self"] (defScope s_Net_knots) := ⟨rfl, rfl, rfl, by decide +kernel, rfl, by decide +kernel, by decide +kernel⟩
abbrev s_Net_wires : Stmt := inClass (topS 34) 3
abbrev n_Net_wires : List Str := ["self"]
theorem sc_Net_wires : FnScope n_Net_wires ["self"] (defScope s_Net_wires) := ⟨rfl, rfl, rfl, by decide +kernel, rfl, by decide +kernel, by decide +kernel⟩
abbrev s_Net_len : Stmt := inClass (topS 34) 4
abbrev n_Net_len : List Str := ["self"]
theorem sc_Net_len : FnScope n_Net_len ["self"] (defScope s_Net_len) := ⟨rfl, rfl, rfl, by decide +kernel, rfl, by decide +kernel, by decide +kernel⟩
abbrev s_Net_eq : Stmt := inClass (topS 34) 5
abbrev n_Net_eq : List Str := ["self", "other"]
theorem sc_Net_eq : FnScope n_Net_eq ["self", "other"] (defScope s_Net_eq) := ⟨rfl, rfl, rfl, by decide +kernel, rfl, by decide +kernel, by decide +kernel⟩
abbrev s_Net_str : Stmt := inClass (topS 34) 6
abbrev n_Net_str : List Str := ["self"]
theorem sc_Net_str : FnScope n_Net_str ["self"] (defScope s_Net_str) := ⟨rfl, rfl, rfl, by decide +kernel, rfl, by decide +kernel, by decide +kernel⟩
abbrev s_is_knot : Stmt := topS 35
abbrev n_is_knot : List Str := ["net", "value"]
theorem sc_is_knot : FnScope n_is_knot ["net", "value"] (defScope s_is_knot) := ⟨rfl, rfl, rfl, by decide +kernel, rfl, by decide +kernel, by decide +kernel⟩
abbrev s_require_net : Stmt := topS 36
abbrev n_require_net : List Str := ["value"]
theorem sc_require_net : FnScope n_require_net ["value"] (defScope s_require_net) := ⟨rfl, rfl, rfl, by decide +kernel, rfl, by decide +kernel, by decide +kernel⟩
abbrev s_require_knot : Stmt := topS 37
abbrev n_require_knot : List Str := ["net", "value"]
theorem sc_require_knot : FnScope n_require_knot ["net", "value"] (defScope s_require_knot) := ⟨rfl, rfl, rfl, by decide +kernel, rfl, by decide +kernel, by decide +kernel⟩
abbrev s_links_of : Stmt := topS 47
abbrev n_links_of : List Str := ["net", "ranges", "found", "wire", "tail", "head", "rise", "low", "high"]
theorem sc_links_of : FnScope n_links_of ["net", "ranges"] (defScope s_links_of) := ⟨rfl, rfl, rfl, by decide +kernel, rfl, by decide +kernel, by decide +kernel⟩
abbrev s_shortened : Stmt := topS 48
abbrev n_shortened : List Str := ["links", "far", "ahead", "found", "before", "after", "length", "step"]
theorem sc_shortened : FnScope n_shortened ["links", "far", "ahead"] (defScope s_shortened) := ⟨rfl, rfl, rfl, by decide +kernel, rfl, by decide +kernel, by decide +kernel⟩
abbrev s_shortest : Stmt := topS 49
abbrev n_shortest : List Str := ["links", "far", "turn", "ahead", "last"]
theorem sc_shortest : FnScope n_shortest ["links", "far"] (defScope s_shortest) := ⟨rfl, rfl, rfl, by decide +kernel, rfl, by decide +kernel, by decide +kernel⟩
abbrev s_steps_back : Stmt := topS 50
abbrev n_steps_back : List Str := ["ahead", "goal", "stop", "found", "here", "step"]
theorem sc_steps_back : FnScope n_steps_back ["ahead", "goal", "stop"] (defScope s_steps_back) := ⟨rfl, rfl, rfl, by decide +kernel, rfl, by decide +kernel, by decide +kernel⟩
abbrev s_heights_or_loop_in : Stmt := topS 51
abbrev n_heights_or_loop_in : List Str := ["net", "ranges", "far", "told", "knot", "ahead"]
theorem sc_heights_or_loop_in : FnScope n_heights_or_loop_in ["net", "ranges"] (defScope s_heights_or_loop_in) := ⟨rfl, rfl, rfl, by decide +kernel, rfl, by decide +kernel, by decide +kernel⟩
abbrev s_begun_at : Stmt := topS 52
abbrev n_begun_at : List Str := ["net", "knot", "one"]
theorem sc_begun_at : FnScope n_begun_at ["net", "knot"] (defScope s_begun_at) := ⟨rfl, rfl, rfl, by decide +kernel, rfl, by decide +kernel, by decide +kernel⟩
abbrev s_farthest_in : Stmt := topS 53
abbrev n_farthest_in : List Str := ["net", "ranges", "start", "goal", "far", "ahead", "knot"]
theorem sc_farthest_in : FnScope n_farthest_in ["net", "ranges", "start", "goal"] (defScope s_farthest_in) := ⟨rfl, rfl, rfl, by decide +kernel, rfl, by decide +kernel, by decide +kernel⟩
abbrev s_are_steps : Stmt := topS 54
abbrev n_are_steps : List Str := ["net", "value", "wire", "way", "step"]
theorem sc_are_steps : FnScope n_are_steps ["net", "value"] (defScope s_are_steps) := ⟨rfl, rfl, rfl, by decide +kernel, rfl, by decide +kernel, by decide +kernel⟩
abbrev s_knots_of_step : Stmt := topS 55
abbrev n_knots_of_step : List Str := ["net", "step", "tail", "head", "rise"]
theorem sc_knots_of_step : FnScope n_knots_of_step ["net", "step"] (defScope s_knots_of_step) := ⟨rfl, rfl, rfl, by decide +kernel, rfl, by decide +kernel, by decide +kernel⟩
abbrev s_knots_of_way : Stmt := topS 56
abbrev n_knots_of_way : List Str := ["net", "steps", "start", "found", "step", "before", "after"]
theorem sc_knots_of_way : FnScope n_knots_of_way ["net", "steps", "start"] (defScope s_knots_of_way) := ⟨rfl, rfl, rfl, by decide +kernel, rfl, by decide +kernel, by decide +kernel⟩
abbrev s_length_of : Stmt := topS 57
abbrev n_length_of : List Str := ["ranges", "steps", "lows", "highs", "wire", "way"]
theorem sc_length_of : FnScope n_length_of ["ranges", "steps"] (defScope s_length_of) := ⟨rfl, rfl, rfl, by decide +kernel, rfl, by decide +kernel, by decide +kernel⟩
abbrev s_is_way : Stmt := topS 58
abbrev n_is_way : List Str := ["net", "start", "goal", "value", "knots"]
theorem sc_is_way : FnScope n_is_way ["net", "start", "goal", "value"] (defScope s_is_way) := ⟨rfl, rfl, rfl, by decide +kernel, rfl, by decide +kernel, by decide +kernel⟩
abbrev s_is_lot_of_knots : Stmt := topS 59
abbrev n_is_lot_of_knots : List Str := ["net", "value", "one", "other", "knot"]
theorem sc_is_lot_of_knots : FnScope n_is_lot_of_knots ["net", "value"] (defScope s_is_lot_of_knots) := ⟨rfl, rfl, rfl, by decide +kernel, rfl, by decide +kernel, by decide +kernel⟩
abbrev s_can_rise : Stmt := topS 60
abbrev n_can_rise : List Str := ["net", "ranges", "knots", "tail", "head", "rise", "low", "high"]
theorem sc_can_rise : FnScope n_can_rise ["net", "ranges", "knots"] (defScope s_can_rise) := ⟨rfl, rfl, rfl, by decide +kernel, rfl, by decide +kernel, by decide +kernel⟩
abbrev s_is_farthest_in : Stmt := topS 61
abbrev n_is_farthest_in : List Str := ["net", "ranges", "start", "goal", "value", "told"]
theorem sc_is_farthest_in : FnScope n_is_farthest_in ["net", "ranges", "start", "goal", "value"] (defScope s_is_farthest_in) := ⟨rfl, rfl, rfl, by decide +kernel, rfl, by decide +kernel, by decide +kernel⟩
abbrev s_is_range : Stmt := topS 62
abbrev n_is_range : List Str := ["value", "end"]
theorem sc_is_range : FnScope n_is_range ["value"] (defScope s_is_range) := ⟨rfl, rfl, rfl, by decide +kernel, rfl, by decide +kernel, by decide +kernel⟩
abbrev s_require_ranges : Stmt := topS 63
abbrev n_require_ranges : List Str := ["net", "ranges", "one"]
theorem sc_require_ranges : FnScope n_require_ranges ["net", "ranges"] (defScope s_require_ranges) := ⟨rfl, rfl, rfl, by decide +kernel, rfl, by decide +kernel, by decide +kernel⟩
abbrev s_require_fitting : Stmt := topS 64
abbrev n_require_fitting : List Str := ["net", "ranges", "word", "told"]
theorem sc_require_fitting : FnScope n_require_fitting ["net", "ranges"] (defScope s_require_fitting) := ⟨rfl, rfl, rfl, by decide +kernel, rfl, by decide +kernel, by decide +kernel⟩
abbrev s_require_two_knots : Stmt := topS 65
abbrev n_require_two_knots : List Str := ["net", "ranges", "start", "goal"]
theorem sc_require_two_knots : FnScope n_require_two_knots ["net", "ranges", "start", "goal"] (defScope s_require_two_knots) := ⟨rfl, rfl, rfl, by decide +kernel, rfl, by decide +kernel, by decide +kernel⟩
abbrev s_most_apart : Stmt := topS 66
abbrev n_most_apart : List Str := ["net", "ranges", "start", "goal"]
theorem sc_most_apart : FnScope n_most_apart ["net", "ranges", "start", "goal"] (defScope s_most_apart) := ⟨rfl, rfl, rfl, by decide +kernel, rfl, by decide +kernel, by decide +kernel⟩
abbrev s_is_most_apart : Stmt := topS 67
abbrev n_is_most_apart : List Str := ["net", "ranges", "start", "goal", "value"]
theorem sc_is_most_apart : FnScope n_is_most_apart ["net", "ranges", "start", "goal", "value"] (defScope s_is_most_apart) := ⟨rfl, rfl, rfl, by decide +kernel, rfl, by decide +kernel, by decide +kernel⟩
abbrev s_law_urn : Stmt := topS 69
abbrev n_law_urn : List Str := ["_law_script", "_law_spot", "_law_cell", "_law_great"]
theorem sc_law_urn : FnScope n_law_urn ["_law_script", "_law_spot"] (defScope s_law_urn) := ⟨rfl, rfl, rfl, by decide +kernel, rfl, by decide +kernel, by decide +kernel⟩
abbrev s_law_ball : Stmt := topS 70
abbrev n_law_ball : List Str := ["_law_urn_here", "_law_many", "_law_one", "_law_two", "_law_found"]
theorem sc_law_ball : FnScope n_law_ball ["_law_urn_here", "_law_many"] (defScope s_law_ball) := ⟨rfl, rfl, rfl, by decide +kernel, rfl, by decide +kernel, by decide +kernel⟩
abbrev s_law_taken : Stmt := topS 71
abbrev n_law_taken : List Str := ["_law_urn_here", "_law_items"]
theorem sc_law_taken : FnScope n_law_taken ["_law_urn_here", "_law_items"] (defScope s_law_taken) := ⟨rfl, rfl, rfl, by decide +kernel, rfl, by decide +kernel, by decide +kernel⟩
abbrev s_law_rise : Stmt := topS 72
abbrev n_law_rise : List Str := ["_law_urn_here", "_law_far", "_law_size", "_law_found"]
theorem sc_law_rise : FnScope n_law_rise ["_law_urn_here", "_law_far", "_law_size"] (defScope s_law_rise) := ⟨rfl, rfl, rfl, by decide +kernel, rfl, by decide +kernel, by decide +kernel⟩
abbrev s_law_wires : Stmt := topS 73
abbrev n_law_wires : List Str := ["_law_urn_here", "_law_knots", "_law_many", "_law_far", "_law_size", "_law_found", "_law_turn", "_law_tail", "_law_head"]
theorem sc_law_wires : FnScope n_law_wires ["_law_urn_here", "_law_knots", "_law_many", "_law_far", "_law_size"] (defScope s_law_wires) := ⟨rfl, rfl, rfl, by decide +kernel, rfl, by decide +kernel, by decide +kernel⟩
abbrev s_law_range : Stmt := topS 74
abbrev n_law_range : List Str := ["_law_urn_here", "_law_size", "_law_low"]
theorem sc_law_range : FnScope n_law_range ["_law_urn_here", "_law_size"] (defScope s_law_range) := ⟨rfl, rfl, rfl, by decide +kernel, rfl, by decide +kernel, by decide +kernel⟩
abbrev s_law_fitting_range : Stmt := topS 75
abbrev n_law_fitting_range : List Str := ["_law_urn_here", "_law_number", "_law_size", "_law_low", "_law_high"]
theorem sc_law_fitting_range : FnScope n_law_fitting_range ["_law_urn_here", "_law_number", "_law_size"] (defScope s_law_fitting_range) := ⟨rfl, rfl, rfl, by decide +kernel, rfl, by decide +kernel, by decide +kernel⟩
abbrev s_law_drops : Stmt := topS 76
abbrev n_law_drops : List Str := ["_law_wires_here", "_law_heights", "_law_tail", "_law_head", "_law_rise_here"]
theorem sc_law_drops : FnScope n_law_drops ["_law_wires_here", "_law_heights"] (defScope s_law_drops) := ⟨rfl, rfl, rfl, by decide +kernel, rfl, by decide +kernel, by decide +kernel⟩
abbrev s_law_links : Stmt := topS 77
abbrev n_law_links : List Str := ["_law_wires_here", "_law_ranges", "_law_found", "_law_wire", "_law_told", "_law_tail", "_law_head", "_law_rise_here", "_law_low", "_law_high"]
theorem sc_law_links : FnScope n_law_links ["_law_wires_here", "_law_ranges"] (defScope s_law_links) := ⟨rfl, rfl, rfl, by decide +kernel, rfl, by decide +kernel, by decide +kernel⟩
abbrev s_law_lengths : Stmt := topS 78
abbrev n_law_lengths : List Str := ["_law_knots", "_law_links_here", "_law_far", "_law_middle", "_law_one", "_law_other", "_law_length_here", "_law_step"]
theorem sc_law_lengths : FnScope n_law_lengths ["_law_knots", "_law_links_here"] (defScope s_law_lengths) := ⟨rfl, rfl, rfl, by decide +kernel, rfl, by decide +kernel, by decide +kernel⟩
abbrev s_law_is_step : Stmt := topS 79
abbrev n_law_is_step : List Str := ["_law_wires_here", "_law_value", "_law_wire"]
theorem sc_law_is_step : FnScope n_law_is_step ["_law_wires_here", "_law_value"] (defScope s_law_is_step) := ⟨rfl, rfl, rfl, by decide +kernel, rfl, by decide +kernel, by decide +kernel⟩
abbrev s_law_way_end : Stmt := topS 80
abbrev n_law_way_end : List Str := ["_law_wires_here", "_law_start", "_law_value", "_law_found", "_law_step", "_law_ends"]
theorem sc_law_way_end : FnScope n_law_way_end ["_law_wires_here", "_law_start", "_law_value"] (defScope s_law_way_end) := ⟨rfl, rfl, rfl, by decide +kernel, rfl, by decide +kernel, by decide +kernel⟩
abbrev s_law_length : Stmt := topS 81
abbrev n_law_length : List Str := ["_law_ranges", "_law_steps", "_law_ends", "_law_wire", "_law_way", "_law_end"]
theorem sc_law_length : FnScope n_law_length ["_law_ranges", "_law_steps"] (defScope s_law_length) := ⟨rfl, rfl, rfl, by decide +kernel, rfl, by decide +kernel, by decide +kernel⟩
abbrev s_law_bars : Stmt := topS 82
abbrev n_law_bars : List Str := ["_law_wires_here", "_law_ranges", "_law_value", "_law_start", "_law_knots", "_law_length_here", "_law_wire", "_law_way"]
theorem sc_law_bars : FnScope n_law_bars ["_law_wires_here", "_law_ranges", "_law_value"] (defScope s_law_bars) := ⟨rfl, rfl, rfl, by decide +kernel, rfl, by decide +kernel, by decide +kernel⟩
abbrev s_law_fits : Stmt := topS 83
abbrev n_law_fits : List Str := ["_law_wires_here", "_law_knots", "_law_ranges", "_law_value", "_law_one", "_law_drop", "_law_told"]
theorem sc_law_fits : FnScope n_law_fits ["_law_wires_here", "_law_knots", "_law_ranges", "_law_value"] (defScope s_law_fits) := ⟨rfl, rfl, rfl, by decide +kernel, rfl, by decide +kernel, by decide +kernel⟩
abbrev s_law_within : Stmt := topS 84
abbrev n_law_within : List Str := ["_law_number", "_law_least", "_law_most"]
theorem sc_law_within : FnScope n_law_within ["_law_number", "_law_least", "_law_most"] (defScope s_law_within) := ⟨rfl, rfl, rfl, by decide +kernel, rfl, by decide +kernel, by decide +kernel⟩
abbrev s_law_spread : Stmt := topS 85
abbrev n_law_spread : List Str := ["_law_urn_here", "_law_wires_here", "_law_knots", "_law_size", "_law_is_sure", "_law_heights", "_law_found", "_law_drop", "_law_is_own", "_law_knot"]
theorem sc_law_spread : FnScope n_law_spread ["_law_urn_here", "_law_wires_here", "_law_knots", "_law_size", "_law_is_sure"] (defScope s_law_spread) := ⟨rfl, rfl, rfl, by decide +kernel, rfl, by decide +kernel, by decide +kernel⟩
abbrev s_law_bent : Stmt := topS 86
abbrev n_law_bent : List Str := ["_law_urn_here", "_law_value", "_law_at"]
theorem sc_law_bent : FnScope n_law_bent ["_law_urn_here", "_law_value"] (defScope s_law_bent) := ⟨rfl, rfl, rfl, by decide +kernel, rfl, by decide +kernel, by decide +kernel⟩
abbrev s_law_drawn : Stmt := topS 87
abbrev n_law_drawn : List Str := ["_law_urn_here", "_law_is_sure", "_law_wires_here", "_law_knots", "_law_size"]
theorem sc_law_drawn : FnScope n_law_drawn ["_law_urn_here", "_law_is_sure"] (defScope s_law_drawn) := ⟨rfl, rfl, rfl, by decide +kernel, rfl, by decide +kernel, by decide +kernel⟩
abbrev s_law_met : Stmt := topS 88
abbrev n_law_met : List Str := ["_law_call", "error"]
theorem sc_law_met : FnScope n_law_met ["_law_call"] (defScope s_law_met) := ⟨rfl, rfl, rfl, by decide +kernel, rfl, by decide +kernel, by decide +kernel⟩
abbrev s_law_is_lot : Stmt := topS 89
abbrev n_law_is_lot : List Str := ["_law_knots", "_law_value", "_law_names", "_law_knot", "_law_one"]
theorem sc_law_is_lot : FnScope n_law_is_lot ["_law_knots", "_law_value"] (defScope s_law_is_lot) := ⟨rfl, rfl, rfl, by decide +kernel, rfl, by decide +kernel, by decide +kernel⟩
abbrev s_law_can_rise : Stmt := topS 90
abbrev n_law_can_rise : List Str := ["_law_wires_here", "_law_ranges", "_law_lot", "_law_tail", "_law_head", "_law_rise_here", "_law_low", "_law_high"]
theorem sc_law_can_rise : FnScope n_law_can_rise ["_law_wires_here", "_law_ranges", "_law_lot"] (defScope s_law_can_rise) := ⟨rfl, rfl, rfl, by decide +kernel, rfl, by decide +kernel, by decide +kernel⟩
abbrev s_law_is_far : Stmt := topS 91
abbrev n_law_is_far : List Str := ["_law_knots", "_law_wires_here", "_law_ranges", "_law_pair", "_law_value", "_law_length_here", "_law_way", "_law_is_lot_here"]
theorem sc_law_is_far : FnScope n_law_is_far ["_law_knots", "_law_wires_here", "_law_ranges", "_law_pair", "_law_value", "_law_length_here"] (defScope s_law_is_far) := ⟨rfl, rfl, rfl, by decide +kernel, rfl, by decide +kernel, by decide +kernel⟩
abbrev s_law_right : Stmt := topS 92
abbrev n_law_right : List Str := ["_law_urn_here", "_law_length_here", "_law_near", "_law_turn", "_law_value", "_law_knots", "_law_wires_here", "_law_ranges", "_law_real", "_law_pair", "_law_far", "_law_is_let", "_law_word", "_law_told", "_law_due"]
theorem sc_law_right : FnScope n_law_right ["_law_urn_here"] (defScope s_law_right) := ⟨rfl, rfl, rfl, by decide +kernel, rfl, by decide +kernel, by decide +kernel⟩
abbrev s_law : Stmt := topS 93
abbrev n_law : List Str := ["_law_script", "_law_spot", "_law_stairs", "_law_told", "_law_urn_here", "_law_row", "_law_spans", "_law_turn"]
theorem sc_law : FnScope n_law ["_law_script"] (defScope s_law) := ⟨rfl, rfl, rfl, by decide +kernel, rfl, by decide +kernel, by decide +kernel⟩
end RN
end

section
set_option Elab.async false
set_option linter.all false
set_option maxRecDepth 100000
set_option maxHeartbeats 4000000
set_option autoImplicit false
/-! RN_ExD: the head's Hook: names, defs, the classes Net and Refused, the table. -/
namespace PySem.RNX
open PySem PySem.W
abbrev aeTail : List Value := [.type "ArithmeticError", .type "Exception", .type "BaseException", .type "object"]
abbrev aeI : String := "ArithmeticError.__init__"
end PySem.RNX
namespace RN
open PySem PySem.Spec PyProof.Rows L2 PySem.RNX
/-- a function's text, wherever it stands -/
def fnA (K : PySem.W.Frag) (a : Addr) : He.FnW := match K.lookup a with
  | some ⟨_, _, .func fd, _⟩ => some (fd.name, fd.qualname, fd.params, fd.body, fd.scope, fd.globals, [], fd.builtins)
  | _ => none
def fnV (name qual : Str) (st : Stmt) : He.FnW := some (name, qual, defArgs st, .stmts (defBody st), defScope st, mainGlobals, [], builtinsNs)
def CN_ (K : PySem.W.Frag) : Addr := He.ga K "Net"
def CR_ (K : PySem.W.Frag) : Addr := He.ga K "Refused"
/-- the getter of a property of Net -/
def gA (f : Str) (K : PySem.W.Frag) : Addr := match PySem.W.recIn K (He.ma K (CN_ K) f) "property" with
  | some (.ref g :: _) => g
  | _ => 0
def iA (K : PySem.W.Frag) : Addr := He.ma K (CR_ K) "__init__"
def as2 : List ((PySem.W.Frag → Addr) × He.FnW) := [(gA "knots", fnV "knots" "Net.knots" s_Net_knots), (gA "wires", fnV "wires" "Net.wires" s_Net_wires), (iA, fnV "__init__" "Refused.__init__" s_Refused_init)]
def bO (a : Option Bool) (b : Bool) : Bool := decide (a = some b)
def slotB (K : PySem.W.Frag) (f : Str) (i : Nat) : Bool := He.eqO (PySem.W.findIn K (.ref (CN_ K)) f) (some (some (.ref (He.ma K (CN_ K) f)))) && (He.eqO (PySem.W.specialIn K (.ref (He.ma K (CN_ K) f)) "__get__") (some (some (.builtin "member_descriptor.__get__"))) && (bO (PySem.W.takesIn K (.ref (He.ma K (CN_ K) f))) true &&
  (decide (PySem.W.typeIn K (.ref (He.ma K (CN_ K) f)) = some (.type "member_descriptor")) && decide (PySem.W.slotIn K (He.ma K (CN_ K) f) (CN_ K) = some i))))
def funB (K : PySem.W.Frag) (a : Addr) (q : Str) : Bool := PySem.W.keepIn K (.ref a) && (match K.lookup a with
  | some ⟨_, _, .func fd, _⟩ => PySem.W.codeIn K fd.code q && (fd.closure.isEmpty && (match fd.defaults with
    | .none => true
    | _ => false))
  | _ => false)
def propB (K : PySem.W.Frag) (f : Str) (q : Str) : Bool := He.eqO (PySem.W.findIn K (.ref (CN_ K)) f) (some (some (.ref (He.ma K (CN_ K) f)))) && (He.eqO (PySem.W.specialIn K (.ref (He.ma K (CN_ K) f)) "__get__") (some (some (.builtin "property.__get__"))) && (bO (PySem.W.takesIn K (.ref (He.ma K (CN_ K) f))) true &&
  ((match PySem.W.recIn K (He.ma K (CN_ K) f) "property" with
    | some (.ref _ :: _) => true
    | _ => false) && funB K (gA f K) q)))
def netB (K : PySem.W.Frag) : Bool := (PySem.W.plainGet K (CN_ K) Str.empty && (PySem.W.isClsIn K (CN_ K) && (PySem.W.plainOver K (CN_ K) && He.eqO (PySem.W.findIn K (.ref (CN_ K)) "__setattr__") (some (some (.builtin "object.__setattr__")))))) && ((slotB K "own_knots" 0 && slotB K "own_wires" 1) &&
  ((He.eqO (PySem.W.findIn K (.ref (CN_ K)) "__class__") (some (some (.builtin "object.__class__"))) && (He.eqO (PySem.W.specialIn K (.builtin "object.__class__") "__get__") (some (some (.builtin "getset_descriptor.__get__"))) && (bO (PySem.W.takesIn K (.builtin "object.__class__")) true && bO (PySem.W.mroIn K (CN_ K) (.type "object")) true))) &&
    (bO (PySem.W.kitOne K (.ref (CN_ K)) (.ref (CN_ K))) true && bO (PySem.W.kitOne K (.type "int") (.ref (He.ga K "Parts"))) false)))
def refL (file : Str) (K : PySem.W.Frag) : Bool := match K.lookup (iA K) with
  | some ⟨_, _, .func fd, _⟩ => (match fd.code, fd.closure with
    | .ref cda, [(x, cc)] => decide (x = "__class__" ∧ fd.defaults = .none) && (PySem.W.codeIn K (.ref cda) "Refused.__init__" && ((match K.lookup cda with
      | some ⟨_, _, .fields vs, _⟩ => (match vs.toList with
        | _ :: _ :: .str z _ :: _ => file == z
        | _ => false)
      | _ => false) && (match K.lookup cc with
      | some ⟨_, _, .cell (some (.ref c)), _⟩ => decide (c = CR_ K)
      | _ => false)))
    | _, _ => false)
  | _ => false
def refB (K : PySem.W.Frag) : Bool := ((PySem.W.clsIn K (CR_ K)).isSome && (bO (PySem.W.mroIn K (CR_ K) (.ref (CR_ K))) true && (He.eqO (PySem.W.nsIn K cStatics "thirdparty.any") (some none) && (He.eqO (PySem.W.ks_superIn K (CR_ K) (CR_ K) "__init__") (some (some (.builtin aeI))) && bO (PySem.W.subIn K (.ref (CR_ K)) (.type "ArithmeticError")) true)))) &&
  ((PySem.W.excInitIn K (CR_ K) aeTail "ArithmeticError.__new__" && (He.eqO (PySem.W.findIn K (.ref (CR_ K)) "__init__") (some (some (.ref (iA K)))) && (PySem.W.isFn K (.ref (iA K)) && (PySem.W.keepIn K (.ref (CR_ K)) && He.eqO (PySem.W.findIn K (.ref (CR_ K)) "__setattr__") (some (some (.builtin "object.__setattr__"))))))) &&
  ((PySem.W.excOver K (CR_ K) aeTail && (He.eqO (PySem.W.takerIn K (CR_ K) "reason") (some none) && (PySem.W.hasDictIn K (CR_ K) && (bO (PySem.W.subIn K (.ref (CR_ K)) (.type "BaseException")) true && decide (PySem.W.typeIn K (.ref (CR_ K)) = some (.type "type")))))) &&
  (He.eqO (PySem.W.findIn K (.ref (CR_ K)) "__getattribute__") (some (some (.builtin "BaseException.__getattribute__"))) && (He.eqO (PySem.W.findIn K (.ref (CR_ K)) "__getattr__") (some none) && (He.eqO (PySem.W.findIn K (.ref (CR_ K)) "reason") (some none) && bO (PySem.W.exmOne K (.ref (CR_ K)) (.ref (CR_ K))) true)))))
def KY (n : Nat) (g : Addr → Option Obj) : PySem.W.Frag := He.frT g (cStatics :: He.asD g n)
abbrev AlY : Type := (He.AlD × Bool) × List He.FnW
def tfY : List He.Defn := [("_law_right", none)]
def exY (file : Str) (K : PySem.W.Frag) : Bool := (netB K && (propB K "knots" "Net.knots" && propB K "wires" "Net.wires")) && (refB K && refL file K)
def obsY (n : Nat) (fa : List He.Fa) (fn : List He.DefD) (file : Str) (g : Addr → Option Obj) : AlY := ((He.obsD fa fn (KY n g), exY file (KY n g) && He.tabsB g tfY (KY n g)), as2.map fun d => fnA (KY n g) (d.1 (KY n g)))
def valY (fn : List He.DefD) : AlY := ((He.valD fn, true), as2.map (·.2))
structure SaysY (fa : List He.Fa) (fn : List He.DefD) (file : Str) (h : Heap) (K : PySem.W.Frag) : Prop where
  d : He.SaysD fa fn K
  more : exY file K = true
  hd : PySem.W.codeHdIn K (He.cT K ("_law_right", none)).1 (He.cT K ("_law_right", none)).2 = true
  out : K.lookup (He.cT K ("_law_right", none)).2 = none
  empty : h.get? (He.cT K ("_law_right", none)).2 = some { cls := .none, data := .fields #[] }
  at2 : ∀ d ∈ as2, fnA K (d.1 K) = d.2
theorem saysY_of {n : Nat} {fa : List He.Fa} {fn : List He.DefD} {file : Str} {h : Heap} (e : obsY n fa fn file h.get? = valY fn) : SaysY fa fn file h (KY n h.get?) := by
  have e1 : He.obsD fa fn (KY n h.get?) = He.valD fn := congrArg (fun z : AlY => z.1.1) e
  have e2 : (exY file (KY n h.get?) && He.tabsB h.get? tfY (KY n h.get?)) = true := congrArg (fun z : AlY => z.1.2) e
  have e3 : (as2.map fun d => fnA (KY n h.get?) (d.1 (KY n h.get?))) = as2.map (·.2) := congrArg (fun z : AlY => z.2) e
  obtain ⟨h1, h2⟩ := He.ba e2
  have h5 : (PySem.W.codeHdIn (KY n h.get?) (He.cT (KY n h.get?) ("_law_right", none)).1 (He.cT (KY n h.get?) ("_law_right", none)).2 && (match h.get? (He.cT (KY n h.get?) ("_law_right", none)).2 with
    | some o => He.emptyTab o
    | none => false)) = true := List.all_eq_true.mp h2 _ List.mem_cons_self
  obtain ⟨h3, h4⟩ := He.ba h5
  obtain ⟨o, q, z⟩ : ∃ o, h.get? (He.cT (KY n h.get?) ("_law_right", none)).2 = some o ∧ He.emptyTab o = true := by
    cases q : h.get? (He.cT (KY n h.get?) ("_law_right", none)).2 with
    | none =>
      rw [q] at h4
      cases h4
    | some o =>
      rw [q] at h4
      exact ⟨o, rfl, h4⟩
  exact ⟨e1, h1, h3, He.frT_none q z, by rw [q, He.emptyTab_eq z], List.map_inj_left.mp e3⟩
def hookY (n : Nat) (fa : List He.Fa) (fn : List He.DefD) (file : Str) : PySem.W.Hook where
  α := AlY
  obs := fun s => obsY n fa fn file s.heap.get?
  val := fun _ => valY fn
  says := fun _ h => ∃ K : PySem.W.Frag, K.In h ∧ SaysY fa fn file h K
  of := fun _ _ e => ⟨_, He.frT_in, saysY_of e⟩
  keeps := fun _ _ _ ⟨K, hK, c⟩ k => ⟨K, PySem.W.Frag.In.keeps hK k, ⟨c.d, c.more, c.hd, c.out, k _ _ c.empty, c.at2⟩⟩
theorem obsY_eq {n : Nat} {fa : List He.Fa} {fn : List He.DefD} {file : Str} {g : Addr → Option Obj} {s : Shared} (h : ∀ a, g a = s.heap.get? a) : obsY n fa fn file g = (hookY n fa fn file).obs s := by
  have e : g = s.heap.get? := funext h
  rw [e] <;> rfl
end RN
end

section
set_option Elab.async false
set_option linter.all false
set_option maxRecDepth 100000
set_option maxHeartbeats 0
namespace RN
open PySem PySem.Spec PyProof.Rows L2
def d_is_whole : He.DefD := ⟨("is_whole", none), "is_whole", "is_whole", defArgs s_is_whole, defBody s_is_whole, defScope s_is_whole, [], []⟩
def d_is_integer : He.DefD := ⟨("is_integer", none), "is_integer", "is_integer", defArgs s_is_integer, defBody s_is_integer, defScope s_is_integer, [], []⟩
def d_is_within : He.DefD := ⟨("is_within", none), "is_within", "is_within", defArgs s_is_within, defBody s_is_within, defScope s_is_within, [], []⟩
def d_is_near : He.DefD := ⟨("is_near", none), "is_near", "is_near", defArgs s_is_near, defBody s_is_near, defScope s_is_near, [], []⟩
def d_other_kind : He.DefD := ⟨("other_kind", none), "other_kind", "other_kind", defArgs s_other_kind, defBody s_other_kind, defScope s_other_kind, [], []⟩
def d_is_point : He.DefD := ⟨("is_point", none), "is_point", "is_point", defArgs s_is_point, defBody s_is_point, defScope s_is_point, [], []⟩
def d_are_corners : He.DefD := ⟨("are_corners", none), "are_corners", "are_corners", defArgs s_are_corners, defBody s_are_corners, defScope s_are_corners, [], []⟩
def d_is_rise : He.DefD := ⟨("is_rise", none), "is_rise", "is_rise", defArgs s_is_rise, defBody s_is_rise, defScope s_is_rise, [], []⟩
def d_is_small_rise : He.DefD := ⟨("is_small_rise", none), "is_small_rise", "is_small_rise", defArgs s_is_small_rise, defBody s_is_small_rise, defScope s_is_small_rise, [], []⟩
def d_is_wire : He.DefD := ⟨("is_wire", none), "is_wire", "is_wire", defArgs s_is_wire, defBody s_is_wire, defScope s_is_wire, [], []⟩
def d_are_parts : He.DefD := ⟨("are_parts", none), "are_parts", "are_parts", defArgs s_are_parts, defBody s_are_parts, defScope s_are_parts, [], []⟩
def d_Parts_init : He.DefD := ⟨("Parts", some "__init__"), "__init__", "Parts.__init__", defArgs s_Parts_init, defBody s_Parts_init, defScope s_Parts_init, [], []⟩
def d_Net_init : He.DefD := ⟨("Net", some "__init__"), "__init__", "Net.__init__", defArgs s_Net_init, defBody s_Net_init, defScope s_Net_init, [], []⟩
def d_is_knot : He.DefD := ⟨("is_knot", none), "is_knot", "is_knot", defArgs s_is_knot, defBody s_is_knot, defScope s_is_knot, [], []⟩
def d_require_net : He.DefD := ⟨("require_net", none), "require_net", "require_net", defArgs s_require_net, defBody s_require_net, defScope s_require_net, [], []⟩
def d_require_knot : He.DefD := ⟨("require_knot", none), "require_knot", "require_knot", defArgs s_require_knot, defBody s_require_knot, defScope s_require_knot, [], []⟩
def d_links_of : He.DefD := ⟨("links_of", none), "links_of", "links_of", defArgs s_links_of, defBody s_links_of, defScope s_links_of, [], []⟩
def d_shortened : He.DefD := ⟨("shortened", none), "shortened", "shortened", defArgs s_shortened, defBody s_shortened, defScope s_shortened, [], []⟩
def d_shortest : He.DefD := ⟨("shortest", none), "shortest", "shortest", defArgs s_shortest, defBody s_shortest, defScope s_shortest, [], []⟩
def d_steps_back : He.DefD := ⟨("steps_back", none), "steps_back", "steps_back", defArgs s_steps_back, defBody s_steps_back, defScope s_steps_back, [], []⟩
def d_heights_or_loop_in : He.DefD := ⟨("heights_or_loop_in", none), "heights_or_loop_in", "heights_or_loop_in", defArgs s_heights_or_loop_in, defBody s_heights_or_loop_in, defScope s_heights_or_loop_in, [], []⟩
def d_begun_at : He.DefD := ⟨("begun_at", none), "begun_at", "begun_at", defArgs s_begun_at, defBody s_begun_at, defScope s_begun_at, [], []⟩
def d_farthest_in : He.DefD := ⟨("farthest_in", none), "farthest_in", "farthest_in", defArgs s_farthest_in, defBody s_farthest_in, defScope s_farthest_in, [], []⟩
def d_are_steps : He.DefD := ⟨("are_steps", none), "are_steps", "are_steps", defArgs s_are_steps, defBody s_are_steps, defScope s_are_steps, [], []⟩
def d_knots_of_step : He.DefD := ⟨("knots_of_step", none), "knots_of_step", "knots_of_step", defArgs s_knots_of_step, defBody s_knots_of_step, defScope s_knots_of_step, [], []⟩
def d_knots_of_way : He.DefD := ⟨("knots_of_way", none), "knots_of_way", "knots_of_way", defArgs s_knots_of_way, defBody s_knots_of_way, defScope s_knots_of_way, [], []⟩
def d_length_of : He.DefD := ⟨("length_of", none), "length_of", "length_of", defArgs s_length_of, defBody s_length_of, defScope s_length_of, [], []⟩
def d_is_way : He.DefD := ⟨("is_way", none), "is_way", "is_way", defArgs s_is_way, defBody s_is_way, defScope s_is_way, [], []⟩
def d_is_lot_of_knots : He.DefD := ⟨("is_lot_of_knots", none), "is_lot_of_knots", "is_lot_of_knots", defArgs s_is_lot_of_knots, defBody s_is_lot_of_knots, defScope s_is_lot_of_knots, [], []⟩
def d_can_rise : He.DefD := ⟨("can_rise", none), "can_rise", "can_rise", defArgs s_can_rise, defBody s_can_rise, defScope s_can_rise, [], []⟩
def d_is_farthest_in : He.DefD := ⟨("is_farthest_in", none), "is_farthest_in", "is_farthest_in", defArgs s_is_farthest_in, defBody s_is_farthest_in, defScope s_is_farthest_in, [], []⟩
def d_is_range : He.DefD := ⟨("is_range", none), "is_range", "is_range", defArgs s_is_range, defBody s_is_range, defScope s_is_range, [], []⟩
def d_require_ranges : He.DefD := ⟨("require_ranges", none), "require_ranges", "require_ranges", defArgs s_require_ranges, defBody s_require_ranges, defScope s_require_ranges, [], []⟩
def d_require_fitting : He.DefD := ⟨("require_fitting", none), "require_fitting", "require_fitting", defArgs s_require_fitting, defBody s_require_fitting, defScope s_require_fitting, [], []⟩
def d_require_two_knots : He.DefD := ⟨("require_two_knots", none), "require_two_knots", "require_two_knots", defArgs s_require_two_knots, defBody s_require_two_knots, defScope s_require_two_knots, [], []⟩
def d_most_apart : He.DefD := ⟨("most_apart", none), "most_apart", "most_apart", defArgs s_most_apart, defBody s_most_apart, defScope s_most_apart, [], []⟩
def d_is_most_apart : He.DefD := ⟨("is_most_apart", none), "is_most_apart", "is_most_apart", defArgs s_is_most_apart, defBody s_is_most_apart, defScope s_is_most_apart, [], []⟩
def d_law_urn : He.DefD := ⟨("_law_urn", none), "_law_urn", "_law_urn", defArgs s_law_urn, defBody s_law_urn, defScope s_law_urn, [], []⟩
def d_law_ball : He.DefD := ⟨("_law_ball", none), "_law_ball", "_law_ball", defArgs s_law_ball, defBody s_law_ball, defScope s_law_ball, [], []⟩
def d_law_taken : He.DefD := ⟨("_law_taken", none), "_law_taken", "_law_taken", defArgs s_law_taken, defBody s_law_taken, defScope s_law_taken, [], []⟩
def d_law_rise : He.DefD := ⟨("_law_rise", none), "_law_rise", "_law_rise", defArgs s_law_rise, defBody s_law_rise, defScope s_law_rise, [], []⟩
def d_law_wires : He.DefD := ⟨("_law_wires", none), "_law_wires", "_law_wires", defArgs s_law_wires, defBody s_law_wires, defScope s_law_wires, [], []⟩
def d_law_range : He.DefD := ⟨("_law_range", none), "_law_range", "_law_range", defArgs s_law_range, defBody s_law_range, defScope s_law_range, [], []⟩
def d_law_fitting_range : He.DefD := ⟨("_law_fitting_range", none), "_law_fitting_range", "_law_fitting_range", defArgs s_law_fitting_range, defBody s_law_fitting_range, defScope s_law_fitting_range, [], []⟩
def d_law_drops : He.DefD := ⟨("_law_drops", none), "_law_drops", "_law_drops", defArgs s_law_drops, defBody s_law_drops, defScope s_law_drops, [], []⟩
def d_law_links : He.DefD := ⟨("_law_links", none), "_law_links", "_law_links", defArgs s_law_links, defBody s_law_links, defScope s_law_links, [], []⟩
def d_law_lengths : He.DefD := ⟨("_law_lengths", none), "_law_lengths", "_law_lengths", defArgs s_law_lengths, defBody s_law_lengths, defScope s_law_lengths, [], []⟩
def d_law_is_step : He.DefD := ⟨("_law_is_step", none), "_law_is_step", "_law_is_step", defArgs s_law_is_step, defBody s_law_is_step, defScope s_law_is_step, [], []⟩
def d_law_way_end : He.DefD := ⟨("_law_way_end", none), "_law_way_end", "_law_way_end", defArgs s_law_way_end, defBody s_law_way_end, defScope s_law_way_end, [], []⟩
def d_law_length : He.DefD := ⟨("_law_length", none), "_law_length", "_law_length", defArgs s_law_length, defBody s_law_length, defScope s_law_length, [], []⟩
def d_law_bars : He.DefD := ⟨("_law_bars", none), "_law_bars", "_law_bars", defArgs s_law_bars, defBody s_law_bars, defScope s_law_bars, [], []⟩
def d_law_fits : He.DefD := ⟨("_law_fits", none), "_law_fits", "_law_fits", defArgs s_law_fits, defBody s_law_fits, defScope s_law_fits, [], []⟩
def d_law_within : He.DefD := ⟨("_law_within", none), "_law_within", "_law_within", defArgs s_law_within, defBody s_law_within, defScope s_law_within, [], []⟩
def d_law_spread : He.DefD := ⟨("_law_spread", none), "_law_spread", "_law_spread", defArgs s_law_spread, defBody s_law_spread, defScope s_law_spread, [], []⟩
def d_law_bent : He.DefD := ⟨("_law_bent", none), "_law_bent", "_law_bent", defArgs s_law_bent, defBody s_law_bent, defScope s_law_bent, [], []⟩
def d_law_drawn : He.DefD := ⟨("_law_drawn", none), "_law_drawn", "_law_drawn", defArgs s_law_drawn, defBody s_law_drawn, defScope s_law_drawn, [], []⟩
def d_law_met : He.DefD := ⟨("_law_met", none), "_law_met", "_law_met", defArgs s_law_met, defBody s_law_met, defScope s_law_met, [], []⟩
def d_law_is_lot : He.DefD := ⟨("_law_is_lot", none), "_law_is_lot", "_law_is_lot", defArgs s_law_is_lot, defBody s_law_is_lot, defScope s_law_is_lot, [], []⟩
def d_law_can_rise : He.DefD := ⟨("_law_can_rise", none), "_law_can_rise", "_law_can_rise", defArgs s_law_can_rise, defBody s_law_can_rise, defScope s_law_can_rise, [], []⟩
def d_law_is_far : He.DefD := ⟨("_law_is_far", none), "_law_is_far", "_law_is_far", defArgs s_law_is_far, defBody s_law_is_far, defScope s_law_is_far, [], []⟩
def d_law_right : He.DefD := ⟨("_law_right", none), "_law_right", "_law_right", defArgs s_law_right, defBody s_law_right, defScope s_law_right, [], []⟩
def d_law : He.DefD := ⟨("law", none), "law", "law", defArgs s_law, defBody s_law, defScope s_law, [], []⟩
def fn : List He.DefD := [d_is_whole, d_is_integer, d_is_within, d_is_near, d_other_kind, d_is_point, d_are_corners, d_is_rise, d_is_small_rise, d_is_wire, d_are_parts, d_Parts_init, d_Net_init, d_is_knot, d_require_net, d_require_knot, d_links_of, d_shortened, d_shortest, d_steps_back, d_heights_or_loop_in, d_begun_at, d_farthest_in, d_are_steps, d_knots_of_step, d_knots_of_way, d_length_of, d_is_way, d_is_lot_of_knots, d_can_rise]
def fn2 : List He.DefD := [d_is_farthest_in, d_is_range, d_require_ranges, d_require_fitting, d_require_two_knots, d_most_apart, d_is_most_apart, d_law_urn, d_law_ball, d_law_taken, d_law_rise, d_law_wires, d_law_range, d_law_fitting_range, d_law_drops, d_law_links, d_law_lengths, d_law_is_step, d_law_way_end, d_law_length, d_law_bars, d_law_fits, d_law_within, d_law_spread, d_law_bent, d_law_drawn, d_law_met, d_law_is_lot, d_law_can_rise, d_law_is_far, d_law_right, d_law]
def fa1 : List He.Fa := [.free "ArithmeticError", .free "IndexError", .free "ValueError", .free "abs", .free "all", .free "bool", .free "dict", .free "enumerate", .free "int", .free "isinstance", .free "len", .free "list", .free "max", .free "min", .free "property", .free "range", .free "repr", .free "set", .free "sorted", .free "str", .free "sum", .free "super", .free "tuple", .free "zip"]
def fa2 : List He.Fa := [.glo "RiseError", .glo "InvalidNet", .glo "InvalidOperation", .glo "InvalidNumber", .glo "Refused", .glo "is_whole", .glo "is_integer", .glo "is_within", .glo "is_near", .glo "other_kind", .glo "is_point", .glo "are_corners", .glo "is_rise", .glo "is_small_rise", .glo "is_wire", .glo "are_parts", .glo "Parts", .glo "Net", .glo "is_knot", .glo "require_net", .glo "require_knot", .glo "links_of", .glo "shortened", .glo "shortest", .glo "steps_back", .glo "heights_or_loop_in", .glo "begun_at", .glo "farthest_in", .glo "are_steps", .glo "knots_of_step", .glo "knots_of_way", .glo "length_of", .glo "is_way", .glo "is_lot_of_knots", .glo "can_rise", .glo "is_farthest_in", .glo "is_range", .glo "require_ranges", .glo "require_fitting", .glo "require_two_knots"]
def fa3 : List He.Fa := [.glo "most_apart", .glo "is_most_apart", .glo "_law_urn", .glo "_law_ball", .glo "_law_taken", .glo "_law_rise", .glo "_law_wires", .glo "_law_range", .glo "_law_fitting_range", .glo "_law_drops", .glo "_law_links", .glo "_law_lengths", .glo "_law_is_step", .glo "_law_way_end", .glo "_law_length", .glo "_law_bars", .glo "_law_fits", .glo "_law_within", .glo "_law_spread", .glo "_law_bent", .glo "_law_drawn", .glo "_law_met", .glo "_law_is_lot", .glo "_law_can_rise", .glo "_law_is_far", .glo "_law_right", .glo "law"]
def fa4 : List He.Fa := [.int "SIXTY" (1000000000000000000000000000000000000000000000000000000000000), .int "MOST_CORNERS" (400), .int "FAR" (1000000000000000000), .int "PAIR_rises" (2), .str "FLAT" "flat", .str "STEEP" "steep", .str "LEVEL" "level", .str "PLUMB" "plumb", .int "MOST_KNOTS" (12), .int "MOST_WIRES" (24), .int "MOST_TURNS" (40), .int "NEAR" (1000000000000), .int "TRIPLE_nets" (3), .int "PAIR_heights" (2), .int "TRIPLE_heights" (3), .int "FORWARD" (1), .int "BACK" (-1), .str "HEIGHTS" "heights", .str "LOOP" "loop", .str "MOST" "most", .str "ENDLESS" "endless"]
def fa : List He.Fa := fa1 ++ fa2 ++ fa3 ++ fa4 ++ [.mkr "Net"]
def fns : List He.DefD := fn ++ fn2
abbrev loose0 : List PySem.Str := [("RiseError" : PySem.Str), ("InvalidNet" : PySem.Str), ("InvalidOperation" : PySem.Str), ("InvalidNumber" : PySem.Str), ("Refused" : PySem.Str), ("SIXTY" : PySem.Str), ("is_whole" : PySem.Str), ("is_integer" : PySem.Str), ("is_within" : PySem.Str), ("is_near" : PySem.Str), ("MOST_CORNERS" : PySem.Str), ("FAR" : PySem.Str), ("PAIR_rises" : PySem.Str), ("FLAT" : PySem.Str), ("STEEP" : PySem.Str), ("LEVEL" : PySem.Str)]
abbrev loose1 : List PySem.Str := [("PLUMB" : PySem.Str), ("other_kind" : PySem.Str), ("is_point" : PySem.Str), ("are_corners" : PySem.Str), ("is_rise" : PySem.Str), ("MOST_KNOTS" : PySem.Str), ("MOST_WIRES" : PySem.Str), ("MOST_TURNS" : PySem.Str), ("NEAR" : PySem.Str), ("TRIPLE_nets" : PySem.Str), ("is_small_rise" : PySem.Str), ("is_wire" : PySem.Str), ("are_parts" : PySem.Str), ("Parts" : PySem.Str), ("Net" : PySem.Str), ("is_knot" : PySem.Str)]
abbrev loose2 : List PySem.Str := [("require_net" : PySem.Str), ("require_knot" : PySem.Str), ("PAIR_heights" : PySem.Str), ("TRIPLE_heights" : PySem.Str), ("FORWARD" : PySem.Str), ("BACK" : PySem.Str), ("HEIGHTS" : PySem.Str), ("LOOP" : PySem.Str), ("MOST" : PySem.Str), ("ENDLESS" : PySem.Str), ("links_of" : PySem.Str), ("shortened" : PySem.Str), ("shortest" : PySem.Str), ("steps_back" : PySem.Str), ("heights_or_loop_in" : PySem.Str), ("begun_at" : PySem.Str)]
abbrev loose3 : List PySem.Str := [("farthest_in" : PySem.Str), ("are_steps" : PySem.Str), ("knots_of_step" : PySem.Str), ("knots_of_way" : PySem.Str), ("length_of" : PySem.Str), ("is_way" : PySem.Str), ("is_lot_of_knots" : PySem.Str), ("can_rise" : PySem.Str), ("is_farthest_in" : PySem.Str), ("is_range" : PySem.Str), ("require_ranges" : PySem.Str), ("require_fitting" : PySem.Str), ("require_two_knots" : PySem.Str), ("most_apart" : PySem.Str), ("is_most_apart" : PySem.Str), ("_law_urn" : PySem.Str)]
abbrev loose4 : List PySem.Str := [("_law_ball" : PySem.Str), ("_law_taken" : PySem.Str), ("_law_rise" : PySem.Str), ("_law_wires" : PySem.Str), ("_law_range" : PySem.Str), ("_law_fitting_range" : PySem.Str), ("_law_drops" : PySem.Str), ("_law_links" : PySem.Str), ("_law_lengths" : PySem.Str), ("_law_is_step" : PySem.Str), ("_law_way_end" : PySem.Str), ("_law_length" : PySem.Str), ("_law_bars" : PySem.Str), ("_law_fits" : PySem.Str), ("_law_within" : PySem.Str), ("_law_spread" : PySem.Str)]
abbrev loose5 : List PySem.Str := [("_law_bent" : PySem.Str), ("_law_drawn" : PySem.Str), ("_law_met" : PySem.Str), ("_law_is_lot" : PySem.Str), ("_law_can_rise" : PySem.Str), ("_law_is_far" : PySem.Str), ("_law_right" : PySem.Str), ("__name__" : PySem.Str)]
abbrev loose : List PySem.Str := loose0 ++ loose1 ++ loose2 ++ loose3 ++ loose4 ++ loose5
abbrev R : PySem.W.OpenRow := PySem.W.OpenLaw.row PySem.Challenge.rw_risenets_k32_whole_how_far_apart
abbrev hk : PySem.W.Hook := hookY 6 fa fns R.prog.main.file
def ob (s : PySem.W.SharedT) : AlY := obsY 6 fa fns R.prog.main.file (HandSHeadRun.getT s)
theorem ob_eq (s : PySem.W.SharedT) : ob s = hk.obs s.abs := obsY_eq (HandSHeadRun.getT_eq s)
def obA (s : PySem.W.SharedT) : List He.FnW := fns.map fun d => He.fnW (KY 6 (HandSHeadRun.getT s)) d.at_
def obB (s : PySem.W.SharedT) : Bool := (fa.all fun f => f.ok (KY 6 (HandSHeadRun.getT s))) && fns.all fun d => d.ok (KY 6 (HandSHeadRun.getT s))
def obC (s : PySem.W.SharedT) : Bool × List He.FnW := (exY R.prog.main.file (KY 6 (HandSHeadRun.getT s)) && He.tabsB (HandSHeadRun.getT s) tfY (KY 6 (HandSHeadRun.getT s)), as2.map fun d => fnA (KY 6 (HandSHeadRun.getT s)) (d.1 (KY 6 (HandSHeadRun.getT s))))
theorem runA (w : World) (os : PySem.OsState) : (HandSHeadRun.endF (HandSHeadRun.stepQ (HandSHeadRun.denQ HandSHeadRun.tabQ) R.prog w) 6000 R.prog w os).map (fun s => (HandSHeadRun.looksF R.prog (PySem.W.boot_heap w.params) s.abs, HandSHeadRun.seenQ (PySem.W.view R.prog [93]) loose (PySem.importedModules R.prog.main.body) (fun s => PySem.W.xlAt (PySem.W.view R.prog [93]) [] s && PySem.W.recOk R.toRowW.records s) s.abs, obA s)) = some (true, PySem.W.openGood (PySem.W.view R.prog [93]) loose, fns.map He.DefD.val) := by
  kernel_rfl
theorem runB (w : World) (os : PySem.OsState) : (HandSHeadRun.endF (HandSHeadRun.stepQ (HandSHeadRun.denQ HandSHeadRun.tabQ) R.prog w) 6000 R.prog w os).map obB = some true := by
  kernel_rfl
theorem runC (w : World) (os : PySem.OsState) : (HandSHeadRun.endF (HandSHeadRun.stepQ (HandSHeadRun.denQ HandSHeadRun.tabQ) R.prog w) 6000 R.prog w os).map obC = some (true, as2.map (·.2)) := by
  kernel_rfl
theorem run (w : World) : HandSHeadRun.RunEq R (PySem.W.view R.prog [93]) hk ob 6000 loose w := by
  intro os
  obtain ⟨s, e, hA⟩ := Option.map_eq_some_iff.mp (runA w os)
  obtain ⟨s2, e2, hB⟩ := Option.map_eq_some_iff.mp (runB w os)
  obtain ⟨s3, e3, hC⟩ := Option.map_eq_some_iff.mp (runC w os)
  rw [e] at e2 e3
  cases e2
  cases e3
  rw [e]
  have eo : ob s = (((obB s, obA s), (obC s).1), (obC s).2) := rfl
  have hA1 := congrArg (fun z => z.1) hA
  have hA2 := congrArg (fun z => z.2.1) hA
  have hA3 : obA s = _ := congrArg (fun z => z.2.2) hA
  have ev : ob s = hk.val w := by
    rw [eo, hA3, hB, hC]
    rfl
  exact congrArg some (Prod.ext hA1 (Prod.ext hA2 ev))

end RN
end

section
set_option Elab.async false
set_option linter.all false
set_option maxRecDepth 100000
set_option maxHeartbeats 0
/-! RN_Holds: the statement from the walk of the law's call. -/
open PySem PySem.W PySem.Calls PyProof.Rows
theorem RN.holds_of (hc : WalkO (view RN.R.prog [93]) RN.loose (XL (view RN.R.prog [93]) []) RN.hk.says RN.R.toRowW (HandSHeadRun.topDef RN.R.prog 93) [] fun f vs => PySem.call f vs) : PySem.Challenge.rw_risenets_k32_whole_how_far_apart.Holds := by
  w_on; o_law
  refine HandSHeadRun.head_any (r := RN.R) (q := view RN.R.prog [93]) (H := RN.hk) (ob := RN.ob) (M := 6000) (loose := RN.loose) (d := HandSHeadRun.topDef RN.R.prog 93) (kwd := []) RN.ob_eq
    (by kernel_rfl) (fun s => by kernel_rfl) RN.run (by kernel_rfl) (by kernel_rfl) (by kernel_rfl) (by rfl) (by first | assumption | decide +kernel) (by decide +kernel) ⟨rfl, rfl, rfl, rfl, rfl, by decide +kernel⟩ ?hw hc
  case hw => w_witness2
theorem RN.law_name : (HandSHeadRun.topDef RN.R.prog 93).name = ("law" : PySem.Str) := by kernel_rfl
theorem RN.law_plain : (HandSHeadRun.topDef RN.R.prog 93).params.defaults = [] := by kernel_rfl
end

section
set_option Elab.async false
set_option linter.all false
set_option maxRecDepth 100000
set_option maxHeartbeats 2000000
/-! RN_Core: data without a heap (D), how a heap bears them (Rp), states, and a logic of readings over data alone: EvP, EvB, EvA, SvP. -/
namespace RN
open PySem PySem.Spec L2

inductive D where
  | non
  | bl (b : Bool)
  | int (i : Int)
  | str (s : Str)
  | tup (xs : List D)
  | lst (xs : List D)
  | net (k : Int) (w : D)
  | ah (c : Nat) (f : Nat → Option (Nat × Nat × Int))
  | dt (c : Nat) (f : Nat → Nat → Option Int)
  | ty (n : String)
  | cls (C : Addr)

/-- an entry of the dict of last steps: (before, (wire, way)) -/
def IsA (U : Addr → Prop) (H : Hp) (b w : Nat) (y : Int) (v : V) : Prop := ∃ t t', v = .ref t ∧ ¬ U t ∧ ¬ U t' ∧ H t = some (.tup [.int (b : Int), .ref t']) ∧ H t' = some (.tup [.int (w : Int), .int y])
def AhAt (U : Addr → Prop) (H : Hp) : Option (Nat × Nat × Int) → Option V → Prop
  | none, o => o = none
  | some p, o => ∃ v, o = some v ∧ IsA U H p.1 p.2.1 p.2.2 v
/-- at most c entries, those that f says -/
def AhR (U : Addr → Prop) (H : Hp) (c : Nat) (f : Nat → Option (Nat × Nat × Int)) (kvs : List (Key × V)) : Prop := kvs.length ≤ c ∧ ∀ k : Nat, AhAt U H (f k) (valV kvs (Sum.inl (k : Int)))
def DtR (c : Nat) (f : Nat → Nat → Option Int) (kvs : List (List Key × V)) : Prop := kvs.length ≤ c ∧ ∀ i j : Nat, valV kvs [Sum.inl (i : Int), Sum.inl (j : Int)] = (f i j).map V.int

mutual
def Rp (CN : Addr) (U : Addr → Prop) (H : Hp) : D → V → Prop
  | .non, v => v = .non
  | .bl b, v => v = .bl b
  | .int i, v => v = .int i
  | .str s, v => v = .str s
  | .tup ds, v => ∃ a xs, v = .ref a ∧ ¬ U a ∧ H a = some (.tup xs) ∧ RpL CN U H ds xs
  | .lst ds, v => ∃ a xs, v = .ref a ∧ ¬ U a ∧ H a = some (.lst xs) ∧ RpL CN U H ds xs
  | .net k w, v => ∃ a dx vw, v = .ref a ∧ ¬ U a ∧ ¬ U dx ∧ H a = some (SlX.SlO a CN dx [some (.int k), some vw]) ∧ H dx = some (.xd []) ∧ Rp CN U H w vw
  | .ah c f, v => ∃ a kvs, v = .ref a ∧ ¬ U a ∧ H a = some (.dK kvs) ∧ AhR U H c f kvs
  | .dt c f, v => ∃ a kvs, v = .ref a ∧ ¬ U a ∧ H a = some (.dT kvs) ∧ DtR c f kvs
  | .ty n, v => v = .ty n
  | .cls C, v => v = .ref C
def RpL (CN : Addr) (U : Addr → Prop) (H : Hp) : List D → List V → Prop
  | [], vs => vs = []
  | d :: ds, vs => ∃ v r, vs = v :: r ∧ Rp CN U H d v ∧ RpL CN U H ds r
end

/-! ### what stays -/
def Kept (U : Addr → Prop) (H H' : Hp) : Prop := ∀ a o, ¬ U a → H a = some o → H' a = some o
def Ch (A : List Addr) (H H' : Hp) : Prop := ∀ a o, a ∉ A → H a = some o → H' a = some o
theorem Ch.refl (A : List Addr) (H : Hp) : Ch A H H := fun _ _ _ h => h
theorem Ch.trans {A : List Addr} {H H1 H2 : Hp} (a : Ch A H H1) (b : Ch A H1 H2) : Ch A H H2 := fun c o n h => b c o n (a c o n h)
theorem Ch.of {A : List Addr} {H H' : Hp} (e : Same H H') : Ch A H H' := fun c o _ h => e c o h
theorem Ch.sub {A B : List Addr} {H H' : Hp} (e : Ch A H H') (h : ∀ a ∈ A, a ∈ B) : Ch B H H' := fun c o n q => e c o (fun z => n (h c z)) q
theorem Ch.kept {A : List Addr} {U : Addr → Prop} {H H' : Hp} (e : Ch A H H') (h : ∀ a ∈ A, U a) : Kept U H H' := fun c o n q => e c o (fun z => n (h c z)) q
theorem Kept.of {U : Addr → Prop} {H H' : Hp} (e : Same H H') : Kept U H H' := fun c o _ h => e c o h
theorem same_new {H : Hp} {p : Addr} {o : HO} (h : H p = none) : Same H (upd H p o) := fun b x e => by
  rw [upd_ne (ne_of_none e h)]
  exact e

theorem IsA.kept {U : Addr → Prop} {H H' : Hp} {b w : Nat} {y : Int} {v : V} (k : Kept U H H') (h : IsA U H b w y v) : IsA U H' b w y v := by
  obtain ⟨t, t', e, n1, n2, h1, h2⟩ := h
  exact ⟨t, t', e, n1, n2, k _ _ n1 h1, k _ _ n2 h2⟩
theorem AhR.mapU {U U' : Addr → Prop} {H H' : Hp} (i : ∀ b w y v, IsA U H b w y v → IsA U' H' b w y v) {c : Nat} {f : Nat → Option (Nat × Nat × Int)} {kvs : List (Key × V)} (h : AhR U H c f kvs) : AhR U' H' c f kvs := ⟨h.1, fun k => by
  have q := h.2 k
  cases e : f k with
  | none =>
    rw [e] at q
    exact q
  | some p =>
    rw [e] at q
    obtain ⟨v, q1, q2⟩ := q
    exact ⟨v, q1, i _ _ _ _ q2⟩⟩
theorem AhR.kept {U : Addr → Prop} {H H' : Hp} (k : Kept U H H') {c : Nat} {f : Nat → Option (Nat × Nat × Int)} {kvs : List (Key × V)} (h : AhR U H c f kvs) : AhR U H' c f kvs := h.mapU fun _ _ _ _ z => z.kept k
mutual
theorem Rp.kept {CN : Addr} {U : Addr → Prop} {H H' : Hp} (k : Kept U H H') : ∀ {d : D} {v : V}, Rp CN U H d v → Rp CN U H' d v
  | .non, v, h => h
  | .bl b, v, h => h
  | .int i, v, h => h
  | .str s, v, h => h
  | .tup ds, v, h => by
    obtain ⟨a, xs, e, n, q, r⟩ := h
    exact ⟨a, xs, e, n, k _ _ n q, RpL.kept k r⟩
  | .lst ds, v, h => by
    obtain ⟨a, xs, e, n, q, r⟩ := h
    exact ⟨a, xs, e, n, k _ _ n q, RpL.kept k r⟩
  | .net i w, v, h => by
    obtain ⟨a, dx, vw, e, n, n2, q1, q3, r⟩ := h
    exact ⟨a, dx, vw, e, n, n2, k _ _ n q1, k _ _ n2 q3, Rp.kept k r⟩
  | .ah _ _, v, h => by
    obtain ⟨a, kvs, e, n, q, r⟩ := h
    exact ⟨a, kvs, e, n, k _ _ n q, r.kept k⟩
  | .dt _ _, v, h => by
    obtain ⟨a, kvs, e, n, q, r⟩ := h
    exact ⟨a, kvs, e, n, k _ _ n q, r⟩
  | .ty n, v, h => h
  | .cls n, v, h => h
theorem RpL.kept {CN : Addr} {U : Addr → Prop} {H H' : Hp} (k : Kept U H H') : ∀ {ds : List D} {vs : List V}, RpL CN U H ds vs → RpL CN U H' ds vs
  | [], vs, h => h
  | d :: ds, vs, h => by
    obtain ⟨v, r, e, h1, h2⟩ := h
    exact ⟨v, r, e, Rp.kept k h1, RpL.kept k h2⟩
end
theorem IsA.weak {U U' : Addr → Prop} {H : Hp} (hU : ∀ a, U' a → U a) {b w : Nat} {y : Int} {v : V} (h : IsA U H b w y v) : IsA U' H b w y v := by
  obtain ⟨t, t', e, n1, n2, h1, h2⟩ := h
  exact ⟨t, t', e, fun z => n1 (hU _ z), fun z => n2 (hU _ z), h1, h2⟩
mutual
/-- less is barred -/
theorem Rp.weak {CN : Addr} {U U' : Addr → Prop} {H : Hp} (hU : ∀ a, U' a → U a) : ∀ {d : D} {v : V}, Rp CN U H d v → Rp CN U' H d v
  | .non, v, h => h
  | .bl b, v, h => h
  | .int i, v, h => h
  | .str s, v, h => h
  | .tup ds, v, h => by
    obtain ⟨a, xs, e, n, q, r⟩ := h
    exact ⟨a, xs, e, fun z => n (hU _ z), q, RpL.weak hU r⟩
  | .lst ds, v, h => by
    obtain ⟨a, xs, e, n, q, r⟩ := h
    exact ⟨a, xs, e, fun z => n (hU _ z), q, RpL.weak hU r⟩
  | .net i w, v, h => by
    obtain ⟨a, dx, vw, e, n, n2, q1, q3, r⟩ := h
    exact ⟨a, dx, vw, e, fun z => n (hU _ z), fun z => n2 (hU _ z), q1, q3, Rp.weak hU r⟩
  | .ah _ _, v, h => by
    obtain ⟨a, kvs, e, n, q, r⟩ := h
    exact ⟨a, kvs, e, fun z => n (hU _ z), q, r.mapU fun _ _ _ _ z => z.weak hU⟩
  | .dt _ _, v, h => by
    obtain ⟨a, kvs, e, n, q, r⟩ := h
    exact ⟨a, kvs, e, fun z => n (hU _ z), q, r⟩
  | .ty n, v, h => h
  | .cls n, v, h => h
theorem RpL.weak {CN : Addr} {U U' : Addr → Prop} {H : Hp} (hU : ∀ a, U' a → U a) : ∀ {ds : List D} {vs : List V}, RpL CN U H ds vs → RpL CN U' H ds vs
  | [], vs, h => h
  | d :: ds, vs, h => by
    obtain ⟨v, r, e, h1, h2⟩ := h
    exact ⟨v, r, e, Rp.weak hU h1, RpL.weak hU h2⟩
end
theorem IsA.bar {U : Addr → Prop} {H : Hp} {l : Addr} (hl : H l = none) {b w : Nat} {y : Int} {v : V} (h : IsA U H b w y v) : IsA (fun a => U a ∨ a = l) H b w y v := by
  obtain ⟨t, t', e, n1, n2, h1, h2⟩ := h
  exact ⟨t, t', e, fun z => z.elim n1 (ne_of_none h1 hl), fun z => z.elim n2 (ne_of_none h2 hl), h1, h2⟩
mutual
/-- a fresh place may be barred besides -/
theorem Rp.bar {CN : Addr} {U : Addr → Prop} {H : Hp} {l : Addr} (hl : H l = none) : ∀ {d : D} {v : V}, Rp CN U H d v → Rp CN (fun a => U a ∨ a = l) H d v
  | .non, v, h => h
  | .bl b, v, h => h
  | .int i, v, h => h
  | .str s, v, h => h
  | .tup ds, v, h => by
    obtain ⟨a, xs, e, n, q, r⟩ := h
    exact ⟨a, xs, e, fun z => z.elim n (ne_of_none q hl), q, RpL.bar hl r⟩
  | .lst ds, v, h => by
    obtain ⟨a, xs, e, n, q, r⟩ := h
    exact ⟨a, xs, e, fun z => z.elim n (ne_of_none q hl), q, RpL.bar hl r⟩
  | .net i w, v, h => by
    obtain ⟨a, dx, vw, e, n, n2, q1, q3, r⟩ := h
    exact ⟨a, dx, vw, e, fun z => z.elim n (ne_of_none q1 hl), fun z => z.elim n2 (ne_of_none q3 hl), q1, q3, Rp.bar hl r⟩
  | .ah _ _, v, h => by
    obtain ⟨a, kvs, e, n, q, r⟩ := h
    exact ⟨a, kvs, e, fun z => z.elim n (ne_of_none q hl), q, r.mapU fun _ _ _ _ z => z.bar hl⟩
  | .dt _ _, v, h => by
    obtain ⟨a, kvs, e, n, q, r⟩ := h
    exact ⟨a, kvs, e, fun z => z.elim n (ne_of_none q hl), q, r⟩
  | .ty n, v, h => h
  | .cls n, v, h => h
theorem RpL.bar {CN : Addr} {U : Addr → Prop} {H : Hp} {l : Addr} (hl : H l = none) : ∀ {ds : List D} {vs : List V}, RpL CN U H ds vs → RpL CN (fun a => U a ∨ a = l) H ds vs
  | [], vs, h => h
  | d :: ds, vs, h => by
    obtain ⟨v, r, e, h1, h2⟩ := h
    exact ⟨v, r, e, Rp.bar hl h1, RpL.bar hl h2⟩
end
theorem nbar {U U' : Addr → Prop} {H : Hp} (hU : ∀ a, U' a → U a ∨ H a = none) {a : Addr} {o : HO} (n : ¬ U a) (q : H a = some o) : ¬ U' a := fun z => (hU a z).elim n fun e => by
  rw [e] at q
  cases q
theorem IsA.upto {U U' : Addr → Prop} {H : Hp} (hU : ∀ a, U' a → U a ∨ H a = none) {b w : Nat} {y : Int} {v : V} (h : IsA U H b w y v) : IsA U' H b w y v := by
  obtain ⟨t, t', e, n1, n2, h1, h2⟩ := h
  exact ⟨t, t', e, (nbar hU n1 h1), (nbar hU n2 h2), h1, h2⟩
mutual
/-- what is barred was barred, or is fresh -/
theorem Rp.upto {CN : Addr} {U U' : Addr → Prop} {H : Hp} (hU : ∀ a, U' a → U a ∨ H a = none) : ∀ {d : D} {v : V}, Rp CN U H d v → Rp CN U' H d v
  | .non, v, h => h
  | .bl b, v, h => h
  | .int i, v, h => h
  | .str s, v, h => h
  | .tup ds, v, h => by
    obtain ⟨a, xs, e, n, q, r⟩ := h
    exact ⟨a, xs, e, nbar hU n q, q, RpL.upto hU r⟩
  | .lst ds, v, h => by
    obtain ⟨a, xs, e, n, q, r⟩ := h
    exact ⟨a, xs, e, nbar hU n q, q, RpL.upto hU r⟩
  | .net i w, v, h => by
    obtain ⟨a, dx, vw, e, n, n2, q1, q3, r⟩ := h
    exact ⟨a, dx, vw, e, nbar hU n q1, nbar hU n2 q3, q1, q3, Rp.upto hU r⟩
  | .ah _ _, v, h => by
    obtain ⟨a, kvs, e, n, q, r⟩ := h
    exact ⟨a, kvs, e, nbar hU n q, q, r.mapU fun _ _ _ _ z => z.upto hU⟩
  | .dt _ _, v, h => by
    obtain ⟨a, kvs, e, n, q, r⟩ := h
    exact ⟨a, kvs, e, nbar hU n q, q, r⟩
  | .ty n, v, h => h
  | .cls n, v, h => h
theorem RpL.upto {CN : Addr} {U U' : Addr → Prop} {H : Hp} (hU : ∀ a, U' a → U a ∨ H a = none) : ∀ {ds : List D} {vs : List V}, RpL CN U H ds vs → RpL CN U' H ds vs
  | [], vs, h => h
  | d :: ds, vs, h => by
    obtain ⟨v, r, e, h1, h2⟩ := h
    exact ⟨v, r, e, Rp.upto hU h1, RpL.upto hU h2⟩
end
theorem RpL.length {CN : Addr} {U : Addr → Prop} {H : Hp} : ∀ {ds : List D} {vs : List V}, RpL CN U H ds vs → vs.length = ds.length
  | [], vs, h => by
    rw [show vs = [] from h]
    rfl
  | d :: ds, vs, h => by
    obtain ⟨v, r, e, h1, h2⟩ := h
    rw [e, List.length_cons, List.length_cons, RpL.length h2]
theorem RpL.get {CN : Addr} {U : Addr → Prop} {H : Hp} : ∀ {ds : List D} {vs : List V} {i : Nat} {d : D}, RpL CN U H ds vs → ds[i]? = some d → ∃ v, vs[i]? = some v ∧ Rp CN U H d v
  | [], vs, i, d, h, e => by simp at e
  | d :: ds, vs, 0, d', h, e => by
    obtain ⟨v, r, e1, h1, h2⟩ := h
    simp at e
    subst e
    subst e1
    exact ⟨v, rfl, h1⟩
  | d :: ds, vs, i + 1, d', h, e => by
    obtain ⟨v, r, e1, h1, h2⟩ := h
    subst e1
    obtain ⟨v', q1, q2⟩ := RpL.get (i := i) (d := d') h2 (by simpa using e)
    exact ⟨v', by simpa using q1, q2⟩
theorem RpL.getV {CN : Addr} {U : Addr → Prop} {H : Hp} {ds : List D} {vs : List V} {i : Nat} {v : V} (h : RpL CN U H ds vs) (e : vs[i]? = some v) : ∃ d, ds[i]? = some d ∧ Rp CN U H d v := by
  have hi : i < vs.length := (List.getElem?_eq_some_iff.mp e).1
  rw [h.length] at hi
  obtain ⟨v', q1, q2⟩ := h.get (List.getElem?_eq_getElem hi)
  rw [e] at q1
  cases q1
  exact ⟨_, List.getElem?_eq_getElem hi, q2⟩
theorem RpL.append {CN : Addr} {U : Addr → Prop} {H : Hp} : ∀ {ds es : List D} {vs ws : List V}, RpL CN U H ds vs → RpL CN U H es ws → RpL CN U H (ds ++ es) (vs ++ ws)
  | [], es, vs, ws, h, h' => by
    rw [show vs = [] from h]
    exact h'
  | d :: ds, es, vs, ws, h, h' => by
    obtain ⟨v, r, e1, h1, h2⟩ := h
    subst e1
    exact ⟨v, r ++ ws, rfl, h1, RpL.append h2 h'⟩
theorem RpL.set {CN : Addr} {U : Addr → Prop} {H : Hp} {d : D} {v : V} (h : Rp CN U H d v) : ∀ {ds : List D} {vs : List V} (i : Nat), RpL CN U H ds vs → RpL CN U H (ds.set i d) (vs.set i v)
  | [], vs, i, q => by
    rw [show vs = [] from q]
    rfl
  | d' :: ds, vs, 0, q => by
    obtain ⟨v', r, e1, h1, h2⟩ := q
    subst e1
    exact ⟨v, r, rfl, h, h2⟩
  | d' :: ds, vs, i + 1, q => by
    obtain ⟨v', r, e1, h1, h2⟩ := q
    subst e1
    exact ⟨v', r.set i v, rfl, h1, RpL.set h i h2⟩
theorem RpL.take {CN : Addr} {U : Addr → Prop} {H : Hp} : ∀ {ds : List D} {vs : List V} (n : Nat), RpL CN U H ds vs → RpL CN U H (ds.take n) (vs.take n)
  | ds, vs, 0, q => by
    rw [List.take_zero, List.take_zero]
    rfl
  | [], vs, n + 1, q => by
    rw [show vs = [] from q]
    rfl
  | d' :: ds, vs, n + 1, q => by
    obtain ⟨v', r, e1, h1, h2⟩ := q
    subst e1
    exact ⟨v', r.take n, rfl, h1, RpL.take n h2⟩
theorem RpL.drop {CN : Addr} {U : Addr → Prop} {H : Hp} : ∀ {ds : List D} {vs : List V} (n : Nat), RpL CN U H ds vs → RpL CN U H (ds.drop n) (vs.drop n)
  | ds, vs, 0, q => q
  | [], vs, n + 1, q => by
    rw [show vs = [] from q]
    rfl
  | d' :: ds, vs, n + 1, q => by
    obtain ⟨v', r, e1, h1, h2⟩ := q
    subst e1
    exact RpL.drop n h2
theorem RpL.reverse {CN : Addr} {U : Addr → Prop} {H : Hp} : ∀ {ds : List D} {vs : List V}, RpL CN U H ds vs → RpL CN U H ds.reverse vs.reverse
  | [], vs, q => by
    rw [show vs = [] from q]
    rfl
  | d' :: ds, vs, q => by
    obtain ⟨v', r, e1, h1, h2⟩ := q
    subst e1
    rw [List.reverse_cons, List.reverse_cons]
    exact RpL.append (RpL.reverse h2) ⟨v', [], rfl, h1, rfl⟩
theorem RpL.ints {CN : Addr} {U : Addr → Prop} {H : Hp} : ∀ {ns : List Int} {vs : List V}, RpL CN U H (ns.map D.int) vs → vs = ns.map V.int
  | [], vs, q => q
  | n :: ns, vs, q => by
    obtain ⟨v', r, e1, h1, h2⟩ := q
    subst e1
    rw [RpL.ints h2, show v' = .int n from h1]
    rfl
theorem RpL.bls {CN : Addr} {U : Addr → Prop} {H : Hp} : ∀ {ns : List Bool} {vs : List V}, RpL CN U H (ns.map D.bl) vs → vs = ns.map V.bl
  | [], vs, q => q
  | n :: ns, vs, q => by
    obtain ⟨v', r, e1, h1, h2⟩ := q
    subst e1
    rw [RpL.bls h2, show v' = .bl n from h1]
    rfl
theorem rpl_ints {CN : Addr} {U : Addr → Prop} {H : Hp} : ∀ (ns : List Int), RpL CN U H (ns.map D.int) (ns.map V.int)
  | [] => rfl
  | n :: ns => ⟨.int n, ns.map V.int, rfl, rfl, rpl_ints ns⟩

/-! ### states -/
inductive Sl where
  | no
  | d (x : D)
  | c (j : Nat)
  | s (K : PySem.W.Frag) (ns : List Int)
inductive Cell where
  | urn
  | ml (ds : List D)
  | ah (c : Nat) (f : Nat → Option (Nat × Nat × Int))
  | dt (c : Nat) (f : Nat → Nat → Option Int)
  | tab (q : Str)
structure Wd where
  CN : Addr
  U : Addr → Prop
  V : Addr → Prop
  A : List Addr
  n0 : Nat
def CellOk (CN : Addr) (U : Addr → Prop) (H : Hp) (a : Addr) : Cell → Prop
  | .urn => ∃ x y z : Int, H a = some (.lst [.int x, .int y, .int z])
  | .ml ds => ∃ xs, H a = some (.lst xs) ∧ RpL CN U H ds xs
  | .ah c f => ∃ kvs, H a = some (.dK kvs) ∧ AhR U H c f kvs
  | .dt c f => ∃ kvs, H a = some (.dT kvs) ∧ DtR c f kvs
  | .tab q => ∃ ps : Array Value, H a = some (.tbl ps) ∧ TriplesOk ps.toList ∧ ∀ (pos : Pos) (cv : Value), codeAmong pos ps.toList = some cv → ∃ c, cv = .ref c ∧ ¬ U c ∧ H c = some (LamX.CodeO c q)
/-- where the object itself stays -/
theorem CellOk.stay {CN : Addr} {U : Addr → Prop} {H H' : Hp} {a : Addr} {c : Cell} (h : CellOk CN U H a c) (k : Kept U H H') (e : ∀ o, H a = some o → H' a = some o) : CellOk CN U H' a c := by
  cases c with
  | urn => obtain ⟨x, y, z, q⟩ := h; exact ⟨x, y, z, e _ q⟩
  | ml ds => obtain ⟨xs, q, r⟩ := h; exact ⟨xs, e _ q, r.kept k⟩
  | ah c f => obtain ⟨xs, q, r⟩ := h; exact ⟨xs, e _ q, r.kept k⟩
  | dt c f => obtain ⟨xs, q, r⟩ := h; exact ⟨xs, e _ q, r⟩
  | tab q =>
    obtain ⟨ps, q1, q2, q3⟩ := h
    refine ⟨ps, e _ q1, q2, fun pos cv z => ?_⟩
    obtain ⟨c, e1, e2, e3⟩ := q3 pos cv z
    exact ⟨c, e1, e2, k _ _ e2 e3⟩
theorem CellOk.weak {CN : Addr} {U U' : Addr → Prop} {H : Hp} {a : Addr} {c : Cell} (hU : ∀ a, U' a → U a) (h : CellOk CN U H a c) : CellOk CN U' H a c := by
  cases c with
  | urn => exact h
  | ml ds => obtain ⟨xs, q, r⟩ := h; exact ⟨xs, q, r.weak hU⟩
  | ah c f => obtain ⟨xs, q, r⟩ := h; exact ⟨xs, q, r.mapU fun _ _ _ _ z => z.weak hU⟩
  | dt c f => exact h
  | tab q =>
    obtain ⟨ps, q1, q2, q3⟩ := h
    refine ⟨ps, q1, q2, fun pos cv z => ?_⟩
    obtain ⟨c, e1, e2, e3⟩ := q3 pos cv z
    exact ⟨c, e1, fun z => e2 (hU _ z), e3⟩
/-- at a return: the cells that were handed in -/
structure Fin0 (W : Wd) (H : Hp) (μ : List Cell) : Prop where
  len : μ.length = W.n0
  cell : ∀ (j : Nat) (c : Cell), μ[j]? = some c → ∃ a : Addr, W.A[j]? = some a ∧ CellOk W.CN W.V H a c
structure Sto (W : Wd) (H : Hp) (μ : List Cell) : Prop where
  cell : ∀ (j : Nat) (c : Cell), μ[j]? = some c → ∃ a : Addr, W.A[j]? = some a ∧ CellOk W.CN W.U H a c
  uok : ∀ a, W.U a → H a ≠ none
  vsub : ∀ a, W.V a → W.U a
  sub : ∀ a ∈ W.A, W.U a
  nd : W.A.Nodup
  len : μ.length = W.A.length
  n0 : W.n0 ≤ W.A.length
/-- a: the script, a list of numbers that nobody changes -/
def ScrOk (K : PySem.W.Frag) (ns : List Int) (U : Addr → Prop) (H : Hp) (a : Addr) : Prop := (¬ U a ∧ ∃ o, H a = some (.frz o (.lst (ns.map V.int)))) ∨
  ∃ (o : Obj) (its : Array Value) (n : Nat), K.lookup a = some o ∧ o.cls = .type "list" ∧ o.dict = none ∧ o.data = .seq its n ∧ its.size ≤ sizeLine ∧ Vals (ns.map V.int) its.toList
section
variable {K : PySem.W.Frag} {ns : List Int} {U U' : Addr → Prop} {H H' : Hp} {a : Addr}
theorem ScrOk.sq (h : ScrOk K ns U H a) : SqL K H a (ns.map V.int) := h.elim (fun ⟨_, o, e⟩ => .inl (.inr ⟨o, e⟩)) .inr
theorem ScrOk.kept (k : Kept U H H') (h : ScrOk K ns U H a) : ScrOk K ns U H' a := h.elim (fun ⟨n, o, e⟩ => .inl ⟨n, o, k _ _ n e⟩) .inr
theorem ScrOk.weak (hU : ∀ a, U' a → U a) (h : ScrOk K ns U H a) : ScrOk K ns U' H a := h.elim (fun ⟨n, r⟩ => .inl ⟨fun z => n (hU _ z), r⟩) .inr
theorem ScrOk.bar {l : Addr} (hl : H l = none) (h : ScrOk K ns U H a) : ScrOk K ns (fun a => U a ∨ a = l) H a := by
  rcases h with ⟨n, r⟩ | h
  · refine .inl ⟨fun z => ?_, r⟩
    rcases z with z | z
    · exact n z
    · rw [z] at r
      obtain ⟨o, e⟩ := r
      rw [hl] at e
      cases e
  · exact .inr h
end
def SlOk (W : Wd) (σ : L2.St) (H : Hp) (i : Nat) : Sl → Prop
  | .no => True
  | .d x => ∃ v : V, σ[i]? = some (some v) ∧ Rp W.CN W.U H x v
  | .c j => ∃ a : Addr, W.A[j]? = some a ∧ σ[i]? = some (some (V.ref a))
  | .s K ns => ∃ a : Addr, σ[i]? = some (some (V.ref a)) ∧ ScrOk K ns W.U H a
structure Stt (W : Wd) (σ : St) (H : Hp) (ρ : List Sl) (μ : List Cell) : Prop where
  sto : Sto W H μ
  sl : ∀ (i : Nat) (x : Sl), ρ[i]? = some x → SlOk W σ H i x
  len : σ.length = ρ.length
section
variable {W : Wd} {σ : St} {H H' : Hp} {ρ : List Sl} {μ : List Cell}
theorem Sto.same (s : Sto W H μ) (e : Same H H') : Sto W H' μ where
  cell := fun j c h => by
    obtain ⟨a, h1, h2⟩ := s.cell j c h
    exact ⟨a, h1, h2.stay (Kept.of e) (e a)⟩
  uok := fun a h z => by
    cases q : H a with
    | none => exact s.uok a h q
    | some o => rw [e a o q] at z; cases z
  vsub := s.vsub
  sub := s.sub
  nd := s.nd
  len := s.len
  n0 := s.n0
theorem Sto.fin (s : Sto W H μ) : Fin0 W H (μ.take W.n0) where
  len := by
    rw [List.length_take, s.len]
    exact Nat.min_eq_left s.n0
  cell := fun j c h => by
    have hj : j < W.n0 := by
      have := (List.getElem?_eq_some_iff.mp h).1
      rw [List.length_take] at this
      omega
    rw [List.getElem?_take_of_lt hj] at h
    obtain ⟨a, h1, h2⟩ := s.cell j c h
    exact ⟨a, h1, h2.weak s.vsub⟩
theorem Stt.same (s : Stt W σ H ρ μ) (e : Same H H') : Stt W σ H' ρ μ where
  sto := s.sto.same e
  sl := fun i x h => by
    have q := s.sl i x h
    cases x with
    | no => trivial
    | d x =>
      obtain ⟨v, q1, q2⟩ := q
      exact ⟨v, q1, q2.kept (Kept.of e)⟩
    | c j => exact q
    | s K ns =>
      obtain ⟨a, q1, q2⟩ := q
      exact ⟨a, q1, q2.kept (Kept.of e)⟩
  len := s.len
theorem Stt.kept (s : Stt W σ H ρ μ) (k : Kept W.U H H') {μ' : List Cell} (h : Sto W H' μ') : Stt W σ H' ρ μ' where
  sto := h
  sl := fun i x h => by
    have q := s.sl i x h
    cases x with
    | no => trivial
    | d x =>
      obtain ⟨v, q1, q2⟩ := q
      exact ⟨v, q1, q2.kept k⟩
    | c j => exact q
    | s K ns =>
      obtain ⟨a, q1, q2⟩ := q
      exact ⟨a, q1, q2.kept k⟩
  len := s.len
theorem Stt.set (s : Stt W σ H ρ μ) {i : Nat} (hi : i < ρ.length) {d : D} {v : V} (h : Rp W.CN W.U H d v) : Stt W (σ.set i (some v)) H (ρ.set i (.d d)) μ where
  sto := s.sto
  sl := fun j x q => by
    by_cases e : j = i
    · subst e
      rw [List.getElem?_set_self hi] at q
      cases q
      exact ⟨v, by rw [List.getElem?_set_self (by rw [s.len]; exact hi)], h⟩
    · rw [List.getElem?_set_ne (Ne.symm e)] at q
      have z := s.sl j x q
      cases x with
      | no => trivial
      | d x =>
        obtain ⟨v', q1, q2⟩ := z
        exact ⟨v', by rw [List.getElem?_set_ne (Ne.symm e)]; exact q1, q2⟩
      | c l =>
        obtain ⟨a, q1, q2⟩ := z
        exact ⟨a, q1, by rw [List.getElem?_set_ne (Ne.symm e)]; exact q2⟩
      | s K ns =>
        obtain ⟨a, q1, q2⟩ := z
        exact ⟨a, by rw [List.getElem?_set_ne (Ne.symm e)]; exact q1, q2⟩
  len := by rw [List.length_set, List.length_set]; exact s.len
/-- what is known of a slot may be forgotten -/
theorem Stt.forget (s : Stt W σ H ρ μ) {ρ' : List Sl} (hl : ρ'.length = ρ.length) (h : ∀ (i : Nat) x, ρ'[i]? = some x → x = .no ∨ ρ[i]? = some x) : Stt W σ H ρ' μ where
  sto := s.sto
  sl := fun i x q => by
    rcases h i x q with rfl | z
    · trivial
    · exact s.sl i x z
  len := s.len.trans hl.symm
theorem Stt.kp (s : Stt W σ H ρ μ) (e : Ch W.A H H') : Kept W.U H H' := e.kept s.sto.sub
theorem Stt.notU (s : Sto W H μ) {p : Addr} (h : H p = none) : ¬ W.U p := fun z => s.uok p z h
theorem Stt.notA (s : Sto W H μ) {p : Addr} (h : H p = none) : p ∉ W.A := fun z => s.uok p (s.sub p z) h

/-! ### the judgements over data -/
def Is {α : Type} (x : α) : α → Prop := fun z => z = x
theorem is {α : Type} (x : α) : Is x x := rfl
def EvP (W : Wd) (te : TE) (ρ : List Sl) (μ : List Cell) (P : D → Prop) : Prop :=
  ∀ σ H, Stt W σ H ρ μ → ∀ Q : VK, (∀ v H' d, Ch W.A H H' → Stt W σ H' ρ μ → Rp W.CN W.U H' d v → P d → Q v H') → te σ H Q
def EvB (W : Wd) (tt : TT) (ρ : List Sl) (μ : List Cell) (P : Bool → Prop) : Prop :=
  ∀ σ H, Stt W σ H ρ μ → ∀ Q : Bool → Hp → Prop, (∀ b H', Ch W.A H H' → Stt W σ H' ρ μ → P b → Q b H') → tt σ H Q
def EvA (W : Wd) (ta : TA) (ρ : List Sl) (μ : List Cell) (P : List D → Prop) : Prop :=
  ∀ σ H, Stt W σ H ρ μ → ∀ Q : List V → Hp → Prop, (∀ vs H' ds, Ch W.A H H' → Stt W σ H' ρ μ → RpL W.CN W.U H' ds vs → P ds → Q vs H') → ta σ H Q
/-- a statement: N where it goes on, R where it returns -/
def SvP (W : Wd) (ts : TS) (ρ : List Sl) (μ : List Cell) (N : List Sl → List Cell → Prop) (R : D → List Cell → Prop) : Prop :=
  ∀ σ H (E : Ends), Stt W σ H ρ μ → (∀ σ' H' ρ' μ', Ch W.A H H' → Stt W σ' H' ρ' μ' → N ρ' μ' → E.nx σ' H') →
    (∀ v H' d μ', Ch W.A H H' → Fin0 W H' μ' → Rp W.CN W.V H' d v → R d μ' → E.rt v H') → ts E σ H
/-- a store into a target -/
def GvP (W : Wd) (g : TG) (ρ : List Sl) (μ : List Cell) (d : D) (N : List Sl → List Cell → Prop) : Prop :=
  ∀ σ H v, Stt W σ H ρ μ → Rp W.CN W.U H d v → ∀ Q : St → Hp → Prop, (∀ σ' H' ρ' μ', Ch W.A H H' → Stt W σ' H' ρ' μ' → N ρ' μ' → Q σ' H') → g v σ H Q

variable {te ta tb tc : TE} {tt tu : TT} {P Pa Pb : D → Prop} {PB PB' : Bool → Prop} {N N' : List Sl → List Cell → Prop} {R : D → List Cell → Prop}
theorem EvP.imp (h : EvP W te ρ μ P) {P' : D → Prop} (i : ∀ d, P d → P' d) : EvP W te ρ μ P' := fun σ H s Q q => h σ H s Q fun v H' d e s' r p => q v H' d e s' r (i d p)
theorem EvB.imp (h : EvB W tt ρ μ PB) (i : ∀ b, PB b → PB' b) : EvB W tt ρ μ PB' := fun σ H s Q q => h σ H s Q fun b H' e s' p => q b H' e s' (i b p)
theorem EvP.to {d d' : D} (h : EvP W te ρ μ (Is d)) (e : d = d') : EvP W te ρ μ (Is d') := e ▸ h
theorem EvB.to {b b' : Bool} (h : EvB W tt ρ μ (Is b)) (e : b = b') : EvB W tt ρ μ (Is b') := e ▸ h
theorem SvP.imp {ts : TS} (h : SvP W ts ρ μ N R) {R' : D → List Cell → Prop} (i : ∀ ρ' μ', N ρ' μ' → N' ρ' μ') (j : ∀ d μ', R d μ' → R' d μ') : SvP W ts ρ μ N' R' :=
  fun σ H E s qn qr => h σ H E s (fun σ' H' ρ' μ' e s' p => qn σ' H' ρ' μ' e s' (i _ _ p)) fun v H' d μ' e s' r p => qr v H' d μ' e s' r (j _ _ p)

/-! names, constants -/
theorem ev_var {i : Nat} {x : D} (h : ρ[i]? = some (.d x)) : EvP W (tVar i) ρ μ (Is x) := fun σ H s Q q => by
  obtain ⟨v, h1, h2⟩ := s.sl i _ h
  exact ⟨v, h1, q v H x (Ch.refl _ _) s h2 rfl⟩
theorem ev_int {i : Int} : EvP W (tC (.int i)) ρ μ (Is (.int i)) := fun σ H s Q q => q _ H (.int i) (Ch.refl _ _) s rfl rfl
theorem ev_str {i : Str} : EvP W (tC (.str i)) ρ μ (Is (.str i)) := fun σ H s Q q => q _ H (.str i) (Ch.refl _ _) s rfl rfl
theorem ev_non : EvP W (tC .non) ρ μ (Is .non) := fun σ H s Q q => q _ H .non (Ch.refl _ _) s rfl rfl
theorem ev_bl {b : Bool} : EvP W (tC (.bl b)) ρ μ (Is (.bl b)) := fun σ H s Q q => q _ H (.bl b) (Ch.refl _ _) s rfl rfl

/-! operators -/
/-- an operation on data, that changes nothing -/
def OpD (W : Wd) (r : R2) (x y : D) (P : D → Prop) : Prop :=
  ∀ H μ, Sto W H μ → ∀ vx vy, Rp W.CN W.U H x vx → Rp W.CN W.U H y vy → ∀ Q : VK, (∀ v H' d, Same H H' → Rp W.CN W.U H' d v → P d → Q v H') → r vx vy H Q
theorem ev_op {r : R2} (ha : EvP W ta ρ μ Pa) (hb : EvP W tb ρ μ Pb) (h : ∀ x y, Pa x → Pb y → OpD W r x y P) : EvP W (tOp r ta tb) ρ μ P := fun σ H s Q q =>
  ha σ H s _ fun v1 H1 x e1 s1 r1 p1 => hb σ H1 s1 _ fun v2 H2 y e2 s2 r2 p2 => h x y p1 p2 H2 μ s2.sto v1 v2 (r1.kept (s1.kp e2)) r2 Q fun v H' d e r p =>
    q v H' d ((e1.trans e2).trans (Ch.of e)) (s2.same e) r p
theorem ev_op1 {r : R2} {x y z : D} (ha : EvP W ta ρ μ (Is x)) (hb : EvP W tb ρ μ (Is y)) (h : OpD W r x y (Is z)) : EvP W (tOp r ta tb) ρ μ (Is z) :=
  ev_op ha hb fun x' y' hx hy => by
    rw [show x' = x from hx, show y' = y from hy]
    exact h
theorem od_I0 {g : Int → Int → V} {i j : Int} {z : D} (h : ∀ H, Rp W.CN W.U H z (g i j)) : OpD W (rI0 g) (.int i) (.int j) (Is z) := fun H μ s vx vy r1 r2 Q q =>
  ⟨i, j, r1, r2, q _ H z (Same.refl H) (h H) rfl⟩
theorem od_I {C : Int → Int → Prop} {g : Int → Int → V} {i j : Int} {z : D} (hc : C i j) (h : ∀ H, Rp W.CN W.U H z (g i j)) : OpD W (rI C g) (.int i) (.int j) (Is z) := fun H μ s vx vy r1 r2 Q q =>
  ⟨i, j, r1, r2, hc, q _ H z (Same.refl H) (h H) rfl⟩
theorem ev_add {i j : Int} (ha : EvP W ta ρ μ (Is (.int i))) (hb : EvP W tb ρ μ (Is (.int j))) : EvP W (tOp (rI0 fun i j => .int (i + j)) ta tb) ρ μ (Is (.int (i + j))) := ev_op1 ha hb (od_I0 fun _ => rfl)
theorem ev_sub {i j : Int} (ha : EvP W ta ρ μ (Is (.int i))) (hb : EvP W tb ρ μ (Is (.int j))) : EvP W (tOp (rI0 fun i j => .int (i - j)) ta tb) ρ μ (Is (.int (i - j))) := ev_op1 ha hb (od_I0 fun _ => rfl)
theorem ev_mul {i j : Int} (hc : CMul i j) (ha : EvP W ta ρ μ (Is (.int i))) (hb : EvP W tb ρ μ (Is (.int j))) : EvP W (tOp (rI CMul fun i j => .int (i * j)) ta tb) ρ μ (Is (.int (i * j))) := ev_op1 ha hb (od_I hc fun _ => rfl)
theorem ev_mod {i j : Int} (hc : 0 < j) (ha : EvP W ta ρ μ (Is (.int i))) (hb : EvP W tb ρ μ (Is (.int j))) : EvP W (tOp (rI (fun _ j => 0 < j) fun i j => .int (i % j)) ta tb) ρ μ (Is (.int (i % j))) := ev_op1 ha hb (od_I hc fun _ => rfl)
theorem ev_fdivW {i j : Int} (hc : CDivW i j) (ha : EvP W ta ρ μ (Is (.int i))) (hb : EvP W tb ρ μ (Is (.int j))) : EvP W (tOp (rI CDivW fun i j => .int (i / j)) ta tb) ρ μ (Is (.int (i / j))) := ev_op1 ha hb (od_I hc fun _ => rfl)
/-! comparisons of ints, as values -/
theorem ev_lt {i j : Int} (ha : EvP W ta ρ μ (Is (.int i))) (hb : EvP W tb ρ μ (Is (.int j))) : EvP W (tOp (rI0 fun i j => .bl (decide (i < j))) ta tb) ρ μ (Is (.bl (decide (i < j)))) := ev_op1 ha hb (od_I0 fun _ => rfl)
theorem ev_le {i j : Int} (ha : EvP W ta ρ μ (Is (.int i))) (hb : EvP W tb ρ μ (Is (.int j))) : EvP W (tOp (rI0 fun i j => .bl (decide (i ≤ j))) ta tb) ρ μ (Is (.bl (decide (i ≤ j)))) := ev_op1 ha hb (od_I0 fun _ => rfl)
theorem ev_gt {i j : Int} (ha : EvP W ta ρ μ (Is (.int i))) (hb : EvP W tb ρ μ (Is (.int j))) : EvP W (tOp (rI0 fun i j => .bl (decide (j < i))) ta tb) ρ μ (Is (.bl (decide (j < i)))) := ev_op1 ha hb (od_I0 fun _ => rfl)
theorem ev_ge {i j : Int} (ha : EvP W ta ρ μ (Is (.int i))) (hb : EvP W tb ρ μ (Is (.int j))) : EvP W (tOp (rI0 fun i j => .bl (decide (j ≤ i))) ta tb) ρ μ (Is (.bl (decide (j ≤ i)))) := ev_op1 ha hb (od_I0 fun _ => rfl)
/-- the scalars among data, as values -/
def D.sc : D → Option V
  | .non => some .non
  | .bl b => some (.bl b)
  | .int i => some (.int i)
  | .str s => some (.str s)
  | _ => none
theorem sc_rp {CN : Addr} {U : Addr → Prop} {x : D} {v w : V} (h : x.sc = some w) (r : Rp CN U H x v) : v = w := by
  cases x with
  | non => cases h; exact r
  | bl b => cases h; exact r
  | int i => cases h; exact r
  | str s => cases h; exact r
  | _ => cases h
theorem od_eq {x y : D} {v w : V} (hx : x.sc = some v) (hy : y.sc = some w) (hs : scal v w = true) : OpD W rEq x y (Is (.bl (decide (v = w)))) := fun H μ s vx vy r1 r2 Q q => by
  rw [sc_rp hx r1, sc_rp hy r2]
  exact ⟨hs, q _ H (.bl (decide (v = w))) (Same.refl H) rfl rfl⟩
theorem od_ne {x y : D} {v w : V} (hx : x.sc = some v) (hy : y.sc = some w) (hs : scal v w = true) : OpD W rNe x y (Is (.bl (!decide (v = w)))) := fun H μ s vx vy r1 r2 Q q => by
  rw [sc_rp hx r1, sc_rp hy r2]
  exact ⟨hs, q _ H (.bl (!decide (v = w))) (Same.refl H) rfl rfl⟩
theorem decV_int (i j : Int) : decide (V.int i = V.int j) = decide (i = j) := by
  by_cases h : i = j
  · rw [h, decide_eq_true rfl, decide_eq_true rfl]
  · rw [decide_eq_false h, decide_eq_false fun z => h (V.int.inj z)]
theorem decV_str (i j : Str) : decide (V.str i = V.str j) = decide (i = j) := by
  by_cases h : i = j
  · rw [h, decide_eq_true rfl, decide_eq_true rfl]
  · rw [decide_eq_false h, decide_eq_false fun z => h (V.str.inj z)]
theorem decV_bl (i j : Bool) : decide (V.bl i = V.bl j) = decide (i = j) := by
  by_cases h : i = j
  · rw [h, decide_eq_true rfl, decide_eq_true rfl]
  · rw [decide_eq_false h, decide_eq_false fun z => h (V.bl.inj z)]
theorem ev_eqI {i j : Int} (ha : EvP W ta ρ μ (Is (.int i))) (hb : EvP W tb ρ μ (Is (.int j))) : EvP W (tOp rEq ta tb) ρ μ (Is (.bl (decide (i = j)))) := (ev_op1 ha hb (od_eq rfl rfl rfl)).to (by rw [decV_int])
theorem ev_neI {i j : Int} (ha : EvP W ta ρ μ (Is (.int i))) (hb : EvP W tb ρ μ (Is (.int j))) : EvP W (tOp rNe ta tb) ρ μ (Is (.bl (!decide (i = j)))) := (ev_op1 ha hb (od_ne rfl rfl rfl)).to (by rw [decV_int])
theorem ev_eqS {i j : Str} (ha : EvP W ta ρ μ (Is (.str i))) (hb : EvP W tb ρ μ (Is (.str j))) : EvP W (tOp rEq ta tb) ρ μ (Is (.bl (decide (i = j)))) := (ev_op1 ha hb (od_eq rfl rfl rfl)).to (by rw [decV_str])
theorem ev_neS {i j : Str} (ha : EvP W ta ρ μ (Is (.str i))) (hb : EvP W tb ρ μ (Is (.str j))) : EvP W (tOp rNe ta tb) ρ μ (Is (.bl (!decide (i = j)))) := (ev_op1 ha hb (od_ne rfl rfl rfl)).to (by rw [decV_str])
theorem ev_neB {i j : Bool} (ha : EvP W ta ρ μ (Is (.bl i))) (hb : EvP W tb ρ μ (Is (.bl j))) : EvP W (tOp rNe ta tb) ρ μ (Is (.bl (!decide (i = j)))) := (ev_op1 ha hb (od_ne rfl rfl rfl)).to (by rw [decV_bl])
/-- is None -/
def D.isN : D → Bool
  | .non => true
  | _ => false
theorem isN_rp {CN : Addr} {U : Addr → Prop} {x : D} {v : V} (r : Rp CN U H x v) : decide (v = .non) = x.isN := by
  cases x with
  | non => exact decide_eq_true r
  | bl b => exact decide_eq_false (by rw [show v = _ from r]; intro z; cases z)
  | int b => exact decide_eq_false (by rw [show v = _ from r]; intro z; cases z)
  | str b => exact decide_eq_false (by rw [show v = _ from r]; intro z; cases z)
  | tup b => obtain ⟨a, xs, rfl, _⟩ := r; exact decide_eq_false (by intro z; cases z)
  | lst b => obtain ⟨a, xs, rfl, _⟩ := r; exact decide_eq_false (by intro z; cases z)
  | net b c => obtain ⟨a, xs, _, rfl, _⟩ := r; exact decide_eq_false (by intro z; cases z)
  | ah b c => obtain ⟨a, xs, rfl, _⟩ := r; exact decide_eq_false (by intro z; cases z)
  | dt b c => obtain ⟨a, xs, rfl, _⟩ := r; exact decide_eq_false (by intro z; cases z)
  | ty b => exact decide_eq_false (by rw [show v = _ from r]; intro z; cases z)
  | cls b => exact decide_eq_false (by rw [show v = _ from r]; intro z; cases z)
theorem ev_isN {x : D} (ha : EvP W ta ρ μ (Is x)) : EvP W (tIsN ta) ρ μ (Is (.bl x.isN)) := fun σ H s Q q =>
  ha σ H s _ fun v H' d e s' r p => by
    rw [show d = x from p] at r
    rw [isN_rp r]
    exact q _ H' (.bl x.isN) e s' rfl rfl
theorem ev_notN {x : D} (ha : EvP W ta ρ μ (Is x)) : EvP W (tNotN ta) ρ μ (Is (.bl (!x.isN))) := fun σ H s Q q =>
  ha σ H s _ fun v H' d e s' r p => by
    rw [show d = x from p] at r
    rw [isN_rp r]
    exact q _ H' (.bl (!x.isN)) e s' rfl rfl
theorem ev_un {f : Int → Int} {i : Int} (ha : EvP W ta ρ μ (Is (.int i))) : EvP W (tUn (rU fun i => .int (f i)) ta) ρ μ (Is (.int (f i))) := fun σ H s Q q =>
  ha σ H s _ fun v H' d e s' r p => by
    rw [show d = .int i from p] at r
    exact ⟨i, r, q _ H' (.int (f i)) e s' rfl rfl⟩
/-! chains, and, or, not, if -/
theorem ev_chain {r r' : R2} {x y z : D} {b c : Bool} (ha : EvP W ta ρ μ (Is x)) (hb : EvP W tb ρ μ (Is y)) (h1 : OpD W r x y (Is (.bl b))) (hc : b = true → EvP W tc ρ μ (Is z)) (h2 : b = true → OpD W r' y z (Is (.bl c))) :
    EvP W (tChain r r' ta tb tc) ρ μ (Is (.bl (b && c))) := fun σ H s Q q =>
  ha σ H s _ fun v1 H1 x' e1 s1 r1 p1 => hb σ H1 s1 _ fun v2 H2 y' e2 s2 r2 p2 => by
    rw [show x' = x from p1] at r1
    rw [show y' = y from p2] at r2
    refine h1 H2 μ s2.sto v1 v2 (r1.kept (s1.kp e2)) r2 _ fun v H3 d e3 r3 p3 => ?_
    rw [show d = .bl b from p3] at r3
    refine ⟨b, r3, ?_⟩
    have s3 := s2.same e3
    cases b with
    | false => exact q _ H3 (.bl false) ((e1.trans e2).trans (Ch.of e3)) s3 rfl rfl
    | true =>
      refine hc rfl σ H3 s3 _ fun v4 H4 z' e4 s4 r4 p4 => ?_
      rw [show z' = z from p4] at r4
      refine h2 rfl H4 μ s4.sto v2 v4 ((r2.kept (Kept.of e3)).kept (s3.kp e4)) r4 Q fun v5 H5 d5 e5 r5 p5 => ?_
      rw [show d5 = .bl c from p5] at r5
      exact q _ H5 _ (((e1.trans e2).trans (Ch.of e3)).trans (e4.trans (Ch.of e5))) (s4.same e5) r5 rfl
theorem ev_andV {a b : Bool} (h1 : EvP W ta ρ μ (Is (.bl a))) (h2 : a = true → EvP W tb ρ μ (Is (.bl b))) : EvP W (tAndV ta tb) ρ μ (Is (.bl (a && b))) := fun σ H s Q q =>
  h1 σ H s _ fun v1 H1 x' e1 s1 r1 p1 => by
    rw [show x' = .bl a from p1] at r1
    refine ⟨a, r1, ?_⟩
    cases a with
    | false => exact q _ H1 (.bl false) e1 s1 rfl rfl
    | true => exact h2 rfl σ H1 s1 Q fun v2 H2 d e2 s2 r2 p2 => q v2 H2 d (e1.trans e2) s2 r2 p2
theorem ev_orV {a b : Bool} (h1 : EvP W ta ρ μ (Is (.bl a))) (h2 : a = false → EvP W tb ρ μ (Is (.bl b))) : EvP W (tOrV ta tb) ρ μ (Is (.bl (a || b))) := fun σ H s Q q =>
  h1 σ H s _ fun v1 H1 x' e1 s1 r1 p1 => by
    rw [show x' = .bl a from p1] at r1
    refine ⟨a, r1, ?_⟩
    cases a with
    | true => exact q _ H1 (.bl true) e1 s1 rfl rfl
    | false => exact h2 rfl σ H1 s1 Q fun v2 H2 d e2 s2 r2 p2 => q v2 H2 d (e1.trans e2) s2 r2 p2
theorem ev_notV {a : Bool} (h1 : EvP W ta ρ μ (Is (.bl a))) : EvP W (tNotV ta) ρ μ (Is (.bl (!a))) := fun σ H s Q q =>
  h1 σ H s _ fun v1 H1 x' e1 s1 r1 p1 => by
    rw [show x' = .bl a from p1] at r1
    exact ⟨a, r1, q _ H1 (.bl (!a)) e1 s1 rfl rfl⟩
theorem ev_if {b : Bool} (h : EvB W tt ρ μ (Is b)) (h1 : b = true → EvP W ta ρ μ P) (h2 : b = false → EvP W tb ρ μ P) : EvP W (tIf tt ta tb) ρ μ P := fun σ H s Q q =>
  h σ H s _ fun b' H1 e1 s1 p1 => by
    rw [show b' = b from p1]
    cases b with
    | true =>
      show ta σ H1 Q
      exact h1 rfl σ H1 s1 Q fun v2 H2 d e2 s2 r2 p2 => q v2 H2 d (e1.trans e2) s2 r2 p2
    | false =>
      show tb σ H1 Q
      exact h2 rfl σ H1 s1 Q fun v2 H2 d e2 s2 r2 p2 => q v2 H2 d (e1.trans e2) s2 r2 p2
/-- the test's answer is one of those that PB says -/
theorem ev_ifN (h : EvB W tt ρ μ PB) (h1 : PB true → EvP W ta ρ μ P) (h2 : PB false → EvP W tb ρ μ P) : EvP W (tIf tt ta tb) ρ μ P := fun σ H s Q q =>
  h σ H s _ fun b' H1 e1 s1 p1 => by
    cases b' with
    | true =>
      show ta σ H1 Q
      exact h1 p1 σ H1 s1 Q fun v2 H2 d e2 s2 r2 p2 => q v2 H2 d (e1.trans e2) s2 r2 p2
    | false =>
      show tb σ H1 Q
      exact h2 p1 σ H1 s1 Q fun v2 H2 d e2 s2 r2 p2 => q v2 H2 d (e1.trans e2) s2 r2 p2
/-! tests -/
theorem eb_val (h : EvP W te ρ μ fun d => ∃ b, d = .bl b ∧ PB b) : EvB W (tB te) ρ μ PB := fun σ H s Q q =>
  h σ H s _ fun v1 H1 x' e1 s1 r1 p1 => by
    obtain ⟨b, rfl, p⟩ := p1
    exact ⟨b, r1, q b H1 e1 s1 p⟩
theorem eb_B {b : Bool} (h : EvP W te ρ μ (Is (.bl b))) : EvB W (tB te) ρ μ (Is b) := eb_val (h.imp fun d p => ⟨b, p, rfl⟩)
theorem eb_T {b : Bool} (h : EvP W te ρ μ (Is (.bl b))) : EvB W (tTest te) ρ μ (Is b) := fun σ H s Q q =>
  h σ H s _ fun v1 H1 x' e1 s1 r1 p1 => by
    rw [show x' = .bl b from p1] at r1
    exact ⟨b, r1, q b H1 e1 s1 rfl⟩
theorem eb_TN (h : EvP W te ρ μ fun d => ∃ b, d = .bl b ∧ PB b) : EvB W (tTest te) ρ μ PB := fun σ H s Q q =>
  h σ H s _ fun v1 H1 x' e1 s1 r1 p1 => by
    obtain ⟨b, rfl, p⟩ := p1
    exact ⟨b, r1, q b H1 e1 s1 p⟩
theorem eb_and {a b : Bool} (h1 : EvB W tt ρ μ (Is a)) (h2 : a = true → EvB W tu ρ μ (Is b)) : EvB W (tAnd tt tu) ρ μ (Is (a && b)) := fun σ H s Q q =>
  h1 σ H s _ fun b' H1 e1 s1 p1 => by
    rw [show b' = a from p1]
    cases a with
    | true => exact h2 rfl σ H1 s1 Q fun b2 H2 e2 s2 p2 => q b2 H2 (e1.trans e2) s2 p2
    | false => exact q false H1 e1 s1 rfl
theorem eb_or {a b : Bool} (h1 : EvB W tt ρ μ (Is a)) (h2 : a = false → EvB W tu ρ μ (Is b)) : EvB W (tOr tt tu) ρ μ (Is (a || b)) := fun σ H s Q q =>
  h1 σ H s _ fun b' H1 e1 s1 p1 => by
    rw [show b' = a from p1]
    cases a with
    | false => exact h2 rfl σ H1 s1 Q fun b2 H2 e2 s2 p2 => q b2 H2 (e1.trans e2) s2 p2
    | true => exact q true H1 e1 s1 rfl
theorem eb_not {a : Bool} (h1 : EvB W tt ρ μ (Is a)) : EvB W (tNot tt) ρ μ (Is (!a)) := fun σ H s Q q =>
  h1 σ H s _ fun b' H1 e1 s1 p1 => q (!b') H1 e1 s1 (by rw [show b' = a from p1]; rfl)
theorem eb_yes : EvB W tYes ρ μ (Is true) := fun σ H s Q q => q true H (Ch.refl _ _) s rfl
/-! arguments, displays -/
theorem ea_nil : EvA W tNil ρ μ (Is []) := fun σ H s Q q => q [] H [] (Ch.refl _ _) s rfl rfl
theorem ea_consN {tr : TA} {PA : List D → Prop} (h : EvP W te ρ μ P) (hr : EvA W tr ρ μ PA) : EvA W (tCons te tr) ρ μ (fun ds => ∃ d r, ds = d :: r ∧ P d ∧ PA r) := fun σ H s Q q =>
  h σ H s _ fun v1 H1 d e1 s1 r1 p1 => hr σ H1 s1 _ fun vs H2 ds e2 s2 r2 p2 => q _ H2 (d :: ds) (e1.trans e2) s2 ⟨v1, vs, rfl, r1.kept (s1.kp e2), r2⟩ ⟨d, ds, rfl, p1, p2⟩
theorem ea_cons {tr : TA} {d : D} {ds : List D} (h : EvP W te ρ μ (Is d)) (hr : EvA W tr ρ μ (Is ds)) : EvA W (tCons te tr) ρ μ (Is (d :: ds)) := fun σ H s Q q =>
  ea_consN h hr σ H s Q fun vs H' ds' e s' r p => by
    obtain ⟨d1, r1, e1, p1, p2⟩ := p
    rw [show d1 = d from p1, show r1 = ds from p2] at e1
    exact q vs H' ds' e s' r e1
theorem EvA.imp {ta : TA} {PA PA' : List D → Prop} (h : EvA W ta ρ μ PA) (i : ∀ d, PA d → PA' d) : EvA W ta ρ μ PA' := fun σ H s Q q => h σ H s Q fun v H' d e s' r p => q v H' d e s' r (i d p)
theorem ev_tup {ta : TA} {PA : List D → Prop} (h : EvA W ta ρ μ PA) (hl : ∀ ds, PA ds → ds.length ≤ 1000) : EvP W (tTup ta) ρ μ (fun d => ∃ ds, d = .tup ds ∧ PA ds) := fun σ H s Q q =>
  h σ H s _ fun vs H1 ds e1 s1 r1 p1 => ⟨by rw [r1.length]; exact Nat.le_of_lt (small1000 (hl ds p1)), fun p hp => q (.ref p) _ (.tup ds) (e1.trans (Ch.of (same_new hp))) (s1.same (same_new hp))
    ⟨p, vs, rfl, Stt.notU s1.sto hp, upd_same, r1.kept (Kept.of (same_new hp))⟩ ⟨ds, rfl, p1⟩⟩
theorem ev_tup1 {ta : TA} {ds : List D} (h : EvA W ta ρ μ (Is ds)) (hl : ds.length ≤ 1000 := by decide) : EvP W (tTup ta) ρ μ (Is (.tup ds)) :=
  (ev_tup h fun ds' e => by rw [show ds' = ds from e]; exact hl).imp fun d ⟨ds', e, e2⟩ => by rw [e, show ds' = ds from e2]; rfl
theorem ev_lst {ta : TA} {PA : List D → Prop} (h : EvA W ta ρ μ PA) (hl : ∀ ds, PA ds → ds.length ≤ 1000) : EvP W (tLst ta) ρ μ (fun d => ∃ ds, d = .lst ds ∧ PA ds) := fun σ H s Q q =>
  h σ H s _ fun vs H1 ds e1 s1 r1 p1 => ⟨by rw [r1.length]; exact Nat.le_of_lt (small1000 (hl ds p1)), fun p hp => q (.ref p) _ (.lst ds) (e1.trans (Ch.of (same_new hp))) (s1.same (same_new hp))
    ⟨p, vs, rfl, Stt.notU s1.sto hp, upd_same, r1.kept (Kept.of (same_new hp))⟩ ⟨ds, rfl, p1⟩⟩
theorem ev_lst1 {ta : TA} {ds : List D} (h : EvA W ta ρ μ (Is ds)) (hl : ds.length ≤ 1000 := by decide) : EvP W (tLst ta) ρ μ (Is (.lst ds)) :=
  (ev_lst h fun ds' e => by rw [show ds' = ds from e]; exact hl).imp fun d ⟨ds', e, e2⟩ => by rw [e, show ds' = ds from e2]; rfl
/-! subscripts -/
theorem od_ixT {K : PySem.W.Frag} {ds : List D} {i : Int} {d : D} (h : atI ds i = some d) : OpD W (rIxT K) (.tup ds) (.int i) (Is d) := fun H μ s vx vy r1 r2 Q q => by
  obtain ⟨a, xs, rfl, n, e, r⟩ := r1
  obtain ⟨j, h1, h2, h3, h4, h5⟩ := atI_get h
  obtain ⟨v, q1, q2⟩ := r.get h2
  refine ⟨a, xs, i, v, rfl, r2, SqT.of e, ?_, q v H d (Same.refl H) q2 rfl⟩
  unfold atI at h ⊢
  rw [r.length]
  cases z : ixN ds.length i with
  | none => rw [z] at h; cases h
  | some j' =>
    have e1 := (ixN_seq z).1
    rw [h1] at e1
    cases e1
    exact q1
theorem od_ixL {K : PySem.W.Frag} {ds : List D} {i : Int} {d : D} (h : atI ds i = some d) : OpD W (rIxL K) (.lst ds) (.int i) (Is d) := fun H μ s vx vy r1 r2 Q q => by
  obtain ⟨a, xs, rfl, n, e, r⟩ := r1
  obtain ⟨j, h1, h2, h3, h4, h5⟩ := atI_get h
  obtain ⟨v, q1, q2⟩ := r.get h2
  refine ⟨a, xs, i, v, rfl, r2, SqL.of e, ?_, q v H d (Same.refl H) q2 rfl⟩
  unfold atI at h ⊢
  rw [r.length]
  cases z : ixN ds.length i with
  | none => rw [z] at h; cases h
  | some j' =>
    have e1 := (ixN_seq z).1
    rw [h1] at e1
    cases e1
    exact q1
theorem ev_ixT {K : PySem.W.Frag} {ds : List D} {i : Int} {d : D} (h : atI ds i = some d) (ha : EvP W ta ρ μ (Is (.tup ds))) (hb : EvP W tb ρ μ (Is (.int i))) : EvP W (tOp (rIxT K) ta tb) ρ μ (Is d) := ev_op1 ha hb (od_ixT h)
theorem ev_ixL {K : PySem.W.Frag} {ds : List D} {i : Int} {d : D} (h : atI ds i = some d) (ha : EvP W ta ρ μ (Is (.lst ds))) (hb : EvP W tb ρ μ (Is (.int i))) : EvP W (tOp (rIxL K) ta tb) ρ μ (Is d) := ev_op1 ha hb (od_ixL h)
end
end RN
end

section
set_option Elab.async false
set_option linter.all false
set_option maxRecDepth 100000
set_option maxHeartbeats 2000000
/-! RN_Core2: statements, targets, loops, comprehensions, calls over data. -/
namespace RN
open PySem PySem.Spec L2
section
variable {W : Wd} {σ : L2.St} {H H' : Hp} {ρ : List Sl} {μ : List Cell}
variable {te ta tb tc tl : TE} {tt tu : TT} {P Pa Pb : D → Prop} {PB PB' : Bool → Prop} {N N' N1 : List Sl → List Cell → Prop} {R : D → List Cell → Prop} {ts t1 t2 : TS} {g : TG}

/-! ### statements -/
theorem sv_ret (h : EvP W te ρ μ P) (k : ∀ d, P d → R d (μ.take W.n0)) : SvP W (tRet te) ρ μ N R := fun σ H E s qn qr =>
  h σ H s _ fun v H' d e s' r p => qr v H' d _ e s'.sto.fin (r.weak s'.sto.vsub) (k d p)
theorem sv_ret1 {d : D} (h : EvP W te ρ μ (Is d)) (k : R d (μ.take W.n0)) : SvP W (tRet te) ρ μ N R := sv_ret h fun d' e => by
  rw [show d' = d from e]
  exact k
theorem sv_next (h : N ρ μ) : SvP W tNext ρ μ N R := fun σ H E s qn qr => qn σ H ρ μ (Ch.refl _ _) s h
theorem sv_seq (h : SvP W t1 ρ μ N1 R) (k : ∀ ρ' μ', N1 ρ' μ' → SvP W t2 ρ' μ' N R) : SvP W (tSeq t1 t2) ρ μ N R := fun σ H E s qn qr =>
  h σ H { E with nx := t2 E } s (fun σ1 H1 ρ1 μ1 e1 s1 n1 => k ρ1 μ1 n1 σ1 H1 E s1 (fun σ2 H2 ρ2 μ2 e2 s2 n2 => qn σ2 H2 ρ2 μ2 (e1.trans e2) s2 n2) fun v H2 d μ2 e2 s2 r2 p2 => qr v H2 d μ2 (e1.trans e2) s2 r2 p2) qr
theorem sv_let {i : Nat} (h : EvP W te ρ μ P) (k : ∀ d, P d → SvP W t2 (ρ.set i (.d d)) μ N R) (hi : Nat.ble (i + 1) ρ.length = true := by rfl) : SvP W (tSeq (tAsg te (gName i)) t2) ρ μ N R := fun σ H E s qn qr =>
  h σ H s _ fun v H1 d e1 s1 r1 p1 => k d p1 _ H1 E (s1.set (Nat.le_of_ble_eq_true hi) r1) (fun σ2 H2 ρ2 μ2 e2 s2 n2 => qn σ2 H2 ρ2 μ2 (e1.trans e2) s2 n2) fun v H2 d μ2 e2 s2 r2 p2 => qr v H2 d μ2 (e1.trans e2) s2 r2 p2
theorem sv_let1 {i : Nat} {d : D} (h : EvP W te ρ μ (Is d)) (k : SvP W t2 (ρ.set i (.d d)) μ N R) (hi : Nat.ble (i + 1) ρ.length = true := by rfl) : SvP W (tSeq (tAsg te (gName i)) t2) ρ μ N R := sv_let h (fun d' e => by
  rw [show d' = d from e]
  exact k) hi
theorem sv_set {i : Nat} (h : EvP W te ρ μ P) (k : ∀ d, P d → N (ρ.set i (.d d)) μ) (hi : Nat.ble (i + 1) ρ.length = true := by rfl) : SvP W (tAsg te (gName i)) ρ μ N R := fun σ H E s qn qr =>
  h σ H s _ fun v H1 d e1 s1 r1 p1 => qn _ H1 _ _ e1 (s1.set (Nat.le_of_ble_eq_true hi) r1) (k d p1)
theorem sv_if {b : Bool} (h : EvB W tt ρ μ (Is b)) (h1 : b = true → SvP W t1 ρ μ N R) (h2 : b = false → SvP W t2 ρ μ N R) : SvP W (tIfS tt t1 t2) ρ μ N R := fun σ H E s qn qr =>
  h σ H s _ fun b' H1 e1 s1 p1 => by
    rw [show b' = b from p1]
    cases b with
    | true => exact h1 rfl σ H1 E s1 (fun σ2 H2 ρ2 μ2 e2 s2 n2 => qn σ2 H2 ρ2 μ2 (e1.trans e2) s2 n2) fun v H2 d μ2 e2 s2 r2 p2 => qr v H2 d μ2 (e1.trans e2) s2 r2 p2
    | false => exact h2 rfl σ H1 E s1 (fun σ2 H2 ρ2 μ2 e2 s2 n2 => qn σ2 H2 ρ2 μ2 (e1.trans e2) s2 n2) fun v H2 d μ2 e2 s2 r2 p2 => qr v H2 d μ2 (e1.trans e2) s2 r2 p2
theorem sv_ifN (h : EvB W tt ρ μ PB) (h1 : PB true → SvP W t1 ρ μ N R) (h2 : PB false → SvP W t2 ρ μ N R) : SvP W (tIfS tt t1 t2) ρ μ N R := fun σ H E s qn qr =>
  h σ H s _ fun b' H1 e1 s1 p1 => by
    cases b' with
    | true => exact h1 p1 σ H1 E s1 (fun σ2 H2 ρ2 μ2 e2 s2 n2 => qn σ2 H2 ρ2 μ2 (e1.trans e2) s2 n2) fun v H2 d μ2 e2 s2 r2 p2 => qr v H2 d μ2 (e1.trans e2) s2 r2 p2
    | false => exact h2 p1 σ H1 E s1 (fun σ2 H2 ρ2 μ2 e2 s2 n2 => qn σ2 H2 ρ2 μ2 (e1.trans e2) s2 n2) fun v H2 d μ2 e2 s2 r2 p2 => qr v H2 d μ2 (e1.trans e2) s2 r2 p2
/-- an if that only leaves, ahead of the rest -/
theorem sv_guard {b : Bool} (h : EvB W tt ρ μ (Is b)) (h1 : b = true → SvP W t1 ρ μ (fun _ _ => False) R) (h2 : b = false → SvP W t2 ρ μ N R) : SvP W (tSeq (tIfS tt t1 tNext) t2) ρ μ N R :=
  sv_seq (N1 := fun ρ' μ' => ρ' = ρ ∧ μ' = μ ∧ b = false) (sv_if h (fun hb => (h1 hb).imp (fun _ _ z => z.elim) fun _ _ z => z) fun hb => sv_next ⟨rfl, rfl, hb⟩) fun ρ' μ' n => by
    obtain ⟨rfl, rfl, hb⟩ := n
    exact h2 hb
theorem sv_drop (h : EvP W te ρ μ P) (k : N ρ μ) : SvP W (tDrop te) ρ μ N R := fun σ H E s qn qr => h σ H s _ fun v H1 d e1 s1 r1 p1 => qn _ H1 _ _ e1 s1 k
theorem sv_asg (h : EvP W te ρ μ P) (k : ∀ d, P d → GvP W g ρ μ d N) : SvP W (tAsg te g) ρ μ N R := fun σ H E s qn qr =>
  h σ H s _ fun v H1 d e1 s1 r1 p1 => k d p1 σ H1 v s1 r1 _ fun σ2 H2 ρ2 μ2 e2 s2 n2 => qn σ2 H2 ρ2 μ2 (e1.trans e2) s2 n2

/-! ### targets -/
theorem gv_name {i : Nat} {d : D} (h : N (ρ.set i (.d d)) μ) (hi : Nat.ble (i + 1) ρ.length = true := by rfl) : GvP W (gName i) ρ μ d N := fun σ H v s r Q q => q _ H _ _ (Ch.refl _ _) (s.set (Nat.le_of_ble_eq_true hi) r) h
def GsP (W : Wd) (t : TGs) (ρ : List Sl) (μ : List Cell) (ds : List D) (N : List Sl → List Cell → Prop) : Prop :=
  ∀ σ H vs, Stt W σ H ρ μ → RpL W.CN W.U H ds vs → ∀ Q : L2.St → Hp → Prop, (∀ σ' H' ρ' μ', Ch W.A H H' → Stt W σ' H' ρ' μ' → N ρ' μ' → Q σ' H') → t vs σ H Q
theorem gs_nil (h : N ρ μ) : GsP W gNil ρ μ [] N := fun σ H vs s r Q q => ⟨r, q σ H ρ μ (Ch.refl _ _) s h⟩
theorem gs_cons {t : TG} {u : TGs} {d : D} {ds : List D} (h : GvP W t ρ μ d fun ρ' μ' => GsP W u ρ' μ' ds N) : GsP W (gCons t u) ρ μ (d :: ds) N := fun σ H vs s r Q q => by
  obtain ⟨v, r', e, r1, r2⟩ := r
  refine ⟨v, r', e, h σ H v s r1 _ fun σ1 H1 ρ1 μ1 e1 s1 n1 => ?_⟩
  exact n1 σ1 H1 r' s1 (r2.kept (s.kp e1)) Q fun σ2 H2 ρ2 μ2 e2 s2 n2 => q σ2 H2 ρ2 μ2 (e1.trans e2) s2 n2
theorem gv_tup {K : PySem.W.Frag} {n : Nat} {t : TGs} {ds : List D} (hl : ds.length = n) (h : GsP W t ρ μ ds N) : GvP W (gTup K n t) ρ μ (.tup ds) N := fun σ H v s r Q q => by
  obtain ⟨a, xs, rfl, n1, e, r1⟩ := r
  exact ⟨a, xs, rfl, SqT.of e, r1.length.trans hl, h σ H xs s r1 Q q⟩
theorem GvP.imp {d : D} (h : GvP W g ρ μ d N) (i : ∀ ρ' μ', N ρ' μ' → N' ρ' μ') : GvP W g ρ μ d N' := fun σ H v s r Q q => h σ H v s r Q fun σ' H' ρ' μ' e s' n => q σ' H' ρ' μ' e s' (i _ _ n)

/-! ### loops -/
/-- J walks the data ds, as long as its sources stay -/
def ItD (CN : Addr) (U : Addr → Prop) (J : It) (H1 : Hp) (ds : List D) : Prop :=
  ∀ (U' : Addr → Prop) (H : Hp), (∀ a, U' a → U a ∨ H1 a = none) → (∀ a, U' a → H a ≠ none) → Kept U' H1 H →
    (∀ i, i < ds.length → J.go i H) ∧ J.stop ds.length H ∧ ∀ i x H', i < ds.length → J.yld i H x H' → Same H H' ∧ ∃ d, ds[i]? = some d ∧ Rp CN U' H' d x
def IvP (W : Wd) (wi : TI) (ρ : List Sl) (μ : List Cell) (P : List D → Prop) : Prop :=
  ∀ σ H, Stt W σ H ρ μ → ∀ R : It → Hp → Prop, (∀ J H1 ds, Ch W.A H H1 → Stt W σ H1 ρ μ → ItD W.CN W.U J H1 ds → P ds → R J H1) → wi σ H R
theorem sv_for {wi : TI} {ds : List D} (Inv : Nat → List Sl → List Cell → Prop) (h : IvP W wi ρ μ (Is ds)) (h0 : Inv 0 ρ μ)
    (hs : ∀ (i : Nat) (d : D) ρ' μ', ds[i]? = some d → Inv i ρ' μ' → GvP W g ρ' μ' d fun ρ2 μ2 => SvP W ts ρ2 μ2 (Inv (i + 1)) R)
    (hd : ∀ ρ' μ', Inv ds.length ρ' μ' → N ρ' μ') : SvP W (tFor wi g ts) ρ μ N R := fun σ H E s qn qr =>
  h σ H s _ fun J H1 ds' e1 s1 it p1 => by
    rw [show ds' = ds from p1] at it
    refine ⟨fun i m σ' H' => m + i = ds.length ∧ ∃ ρ' μ', Stt W σ' H' ρ' μ' ∧ Ch W.A H1 H' ∧ Inv i ρ' μ', ⟨ds.length, Nat.add_zero _, ρ, μ, s1, Ch.refl _ _, h0⟩, fun i m σ' H' w => ?_⟩
    obtain ⟨hm, ρ', μ', s', c, w⟩ := w
    obtain ⟨i1, i2, i3⟩ := it W.U H' (fun a z => .inl z) s'.sto.uok (s1.kp c)
    by_cases hi : i < ds.length
    · refine .inr ⟨i1 i hi, fun σ3 H3 => m - 1 + (i + 1) = ds.length ∧ ∃ ρ3 μ3, Stt W σ3 H3 ρ3 μ3 ∧ Ch W.A H1 H3 ∧ Inv (i + 1) ρ3 μ3, fun σ3 H3 n3 => ⟨m - 1, by omega, n3⟩, fun x H2 y => ?_⟩
      obtain ⟨sm, d, hd', rx⟩ := i3 i x H2 hi y
      refine hs i d ρ' μ' hd' w σ' H2 x (s'.same sm) rx _ fun σ3 H3 ρ3 μ3 e3 s3 n3 => ?_
      have c3 : Ch W.A H1 H3 := c.trans ((Ch.of sm).trans e3)
      exact n3 σ3 H3 _ s3 (fun σ4 H4 ρ4 μ4 e4 s4 n4 => ⟨by omega, ρ4, μ4, s4, c3.trans e4, n4⟩) fun v4 H4 d4 μ4 e4 s4 r4 p4 => qr v4 H4 d4 μ4 (e1.trans (c3.trans e4)) s4 r4 p4
    · have e : i = ds.length := by omega
      subst e
      exact .inl ⟨i2, qn σ' H' ρ' μ' (e1.trans c) s' (hd _ _ w)⟩
theorem itd_list {CN : Addr} {U : Addr → Prop} {K : PySem.W.Frag} {a : Addr} {xs : List V} {ds : List D} {H1 : Hp} (nU : ¬ U a) (ea : H1 a = some (.lst xs)) (rl : RpL CN U H1 ds xs) : ItD CN U (Itl K a) H1 ds := fun U' H h1 h2 k => by
  have n' : ¬ U' a := fun z => (h1 a z).elim nU fun e => by rw [e] at ea; cases ea
  have e' := k a _ n' ea
  have up : ∀ {d v}, Rp CN U H1 d v → Rp CN U' H1 d v := fun r => Rp.upto h1 r
  refine ⟨fun i hi => ?_, ⟨xs, SqL.of e', by rw [rl.length]; exact Nat.le_refl _⟩, fun i x H' hi y => ?_⟩
  · obtain ⟨v, q1, q2⟩ := rl.get (List.getElem?_eq_getElem hi)
    exact ⟨xs, v, SqL.of e', q1⟩
  · obtain ⟨rfl, y⟩ := y
    obtain ⟨d, hd, r⟩ := rl.getV (y xs (SqL.of e'))
    exact ⟨Same.refl _, d, hd, (up r).kept k⟩
theorem itd_tup {CN : Addr} {U : Addr → Prop} {K : PySem.W.Frag} {a : Addr} {xs : List V} {ds : List D} {H1 : Hp} (nU : ¬ U a) (ea : H1 a = some (.tup xs)) (rl : RpL CN U H1 ds xs) : ItD CN U (Itt K a) H1 ds := fun U' H h1 h2 k => by
  have n' : ¬ U' a := fun z => (h1 a z).elim nU fun e => by rw [e] at ea; cases ea
  have e' := k a _ n' ea
  have up : ∀ {d v}, Rp CN U H1 d v → Rp CN U' H1 d v := fun r => Rp.upto h1 r
  refine ⟨fun i hi => ?_, ⟨xs, SqT.of e', by rw [rl.length]; exact Nat.le_refl _⟩, fun i x H' hi y => ?_⟩
  · obtain ⟨v, q1, q2⟩ := rl.get (List.getElem?_eq_getElem hi)
    exact ⟨xs, v, SqT.of e', q1⟩
  · obtain ⟨rfl, y⟩ := y
    obtain ⟨d, hd, r⟩ := rl.getV (y xs (SqT.of e'))
    exact ⟨Same.refl _, d, hd, (up r).kept k⟩
theorem iv_list {K : PySem.W.Frag} {ds : List D} (h : EvP W tl ρ μ (Is (.lst ds))) : IvP W (iList K tl) ρ μ (Is ds) := fun σ H s R q =>
  h σ H s _ fun v H1 d e1 s1 r1 p1 => by
    rw [show d = .lst ds from p1] at r1
    obtain ⟨a, xs, rfl, nU, ea, rl⟩ := r1
    exact ⟨a, rfl, ⟨xs, SqL.of ea⟩, q _ H1 ds e1 s1 (itd_list nU ea rl) rfl⟩
theorem iv_listN {K : PySem.W.Frag} {P : List D → Prop} (h : EvP W tl ρ μ fun d => ∃ ds, d = .lst ds ∧ P ds) : IvP W (iList K tl) ρ μ P := fun σ H s R q =>
  h σ H s _ fun v H1 d e1 s1 r1 p1 => by
    obtain ⟨ds, rfl, p1⟩ := p1
    obtain ⟨a, xs, rfl, nU, ea, rl⟩ := r1
    exact ⟨a, rfl, ⟨xs, SqL.of ea⟩, q _ H1 ds e1 s1 (itd_list nU ea rl) p1⟩
theorem iv_tup {K : PySem.W.Frag} {ds : List D} (h : EvP W tl ρ μ (Is (.tup ds))) : IvP W (iTup K tl) ρ μ (Is ds) := fun σ H s R q =>
  h σ H s _ fun v H1 d e1 s1 r1 p1 => by
    rw [show d = .tup ds from p1] at r1
    obtain ⟨a, xs, rfl, nU, ea, rl⟩ := r1
    exact ⟨a, rfl, ⟨xs, SqT.of ea⟩, q _ H1 ds e1 s1 (itd_tup nU ea rl) rfl⟩
def upto (n : Nat) : List D := (List.range n).map fun (i : Nat) => D.int (Int.ofNat i)
theorem upto_len (n : Nat) : (upto n).length = n := by unfold upto; rw [List.length_map, List.length_range]
theorem upto_get {n i : Nat} (h : i < n) : (upto n)[i]? = some (.int (i : Int)) := by
  unfold upto
  rw [List.getElem?_map, List.getElem?_range h]
  rfl
theorem iv_rng {ta : TA} {n : Int} (h : EvA W ta ρ μ (Is [.int n])) (hn : -(2 ^ 62) ≤ n ∧ n < 2 ^ 62) : IvP W (iRng1 ta) ρ μ (Is (upto n.toNat)) := fun σ H s R q =>
  h σ H s _ fun vs H1 ds e1 s1 r1 p1 => by
    rw [show ds = [.int n] from p1] at r1
    obtain ⟨v, r, rfl, rv, rr⟩ := r1
    have ev : v = .int n := rv
    have er : r = [] := rr
    subst ev
    subst er
    refine ⟨n, rfl, hn.1, hn.2, q _ H1 _ e1 s1 (fun U' H' h1 h2 k => ⟨fun i hi => ?_, ?_, fun i x H2 hi y => ?_⟩) rfl⟩
    · rw [upto_len] at hi
      exact hi
    · show n.toNat ≤ (upto n.toNat).length
      rw [upto_len]
      exact Nat.le_refl _
    · rw [upto_len] at hi
      obtain ⟨rfl, rfl⟩ := y
      refine ⟨Same.refl _, _, upto_get hi, ?_⟩
      show V.int (0 + (i : Int)) = V.int (i : Int)
      rw [Int.zero_add]
theorem zip_get {ds es : List D} {i : Nat} {d e : D} (h1 : ds[i]? = some d) (h2 : es[i]? = some e) : ((ds.zip es).map fun p => D.tup [p.1, p.2])[i]? = some (.tup [d, e]) := by
  rw [List.getElem?_map, show (ds.zip es)[i]? = some (d, e) from List.getElem?_zip_eq_some.mpr ⟨h1, h2⟩]
  rfl
def zipD (ds es : List D) : List D := (ds.zip es).map fun p => D.tup [p.1, p.2]
/-- zip(t, u), two tuples of one length: each item a new pair -/
theorem iv_zip {K : PySem.W.Frag} {ta : TA} {ds es : List D} (h : EvA W ta ρ μ (Is [.tup ds, .tup es])) : IvP W (RZ.iZipA K ta) ρ μ (Is (zipD ds es)) := fun σ H s R q =>
  h σ H s _ fun vs H1 dd e1 s1 r1 p1 => by
    rw [show dd = [.tup ds, .tup es] from p1] at r1
    obtain ⟨v, r, rfl, rv, rr⟩ := r1
    obtain ⟨v2, r2, rfl, rv2, rr2⟩ := rr
    have er : r2 = [] := rr2
    subst er
    obtain ⟨a, xs, rfl, nU, ea, rl⟩ := rv
    obtain ⟨b, ys, rfl, nUb, eb, rlb⟩ := rv2
    refine ⟨a, b, xs, ys, rfl, .inr ⟨SqT.of ea, SqT.of eb, q _ H1 _ e1 s1 (fun U' H' h1 h2 k => ?_) rfl⟩⟩
    have na : ¬ U' a := fun z => (h1 a z).elim nU fun e => by rw [e] at ea; cases ea
    have nb : ¬ U' b := fun z => (h1 b z).elim nUb fun e => by rw [e] at eb; cases eb
    have ea' := SqT.of (K := K) (k a _ na ea)
    have eb' := SqT.of (K := K) (k b _ nb eb)
    have hlen : (zipD ds es).length = min xs.length ys.length := by
      unfold zipD
      rw [List.length_map, List.length_zip, rl.length, rlb.length]
    refine ⟨fun i hi => ?_, ?_, fun i x H2 hi y => ?_⟩
    · rw [hlen] at hi
      have h3 : i < xs.length := by omega
      have h4 : i < ys.length := by omega
      exact ⟨xs, ys, xs[i], ys[i], ea', eb', List.getElem?_eq_getElem h3, List.getElem?_eq_getElem h4⟩
    · refine ⟨xs, ys, ea', eb', ?_⟩
      rw [hlen]
      omega
    · obtain ⟨T, x1, x2, rfl, nT, rfl, f1, f2⟩ := y
      obtain ⟨d1, hd1, q1⟩ := rl.getV (f1 _ ea')
      obtain ⟨d2, hd2, q2⟩ := rlb.getV (f2 _ eb')
      have sm : Same H' (upd H' T (.tup [x1, x2])) := same_new nT
      exact ⟨sm, _, zip_get hd1 hd2, T, [x1, x2], rfl, fun z => h2 T z nT, upd_same, x1, [x2], rfl, ((Rp.upto h1 q1).kept k).kept (Kept.of sm), x2, [], rfl, ((Rp.upto h1 q2).kept k).kept (Kept.of sm), rfl⟩
/-- a while, by an invariant with a measure -/
theorem sv_while (Inv : Nat → List Sl → List Cell → Prop) (m0 : Nat) (h0 : Inv m0 ρ μ)
    (hs : ∀ m ρ' μ', Inv m ρ' μ' → ∃ b, EvB W tt ρ' μ' (Is b) ∧ (b = true → SvP W ts ρ' μ' (fun ρ2 μ2 => ∃ m', m' < m ∧ Inv m' ρ2 μ2) R) ∧ (b = false → N ρ' μ')) : SvP W (tWhile tt ts) ρ μ N R := fun σ H E s qn qr => by
  refine ⟨fun m σ' H' => ∃ ρ' μ', Stt W σ' H' ρ' μ' ∧ Ch W.A H H' ∧ Inv m ρ' μ', ⟨m0, ρ, μ, s, Ch.refl _ _, h0⟩, fun m σ' H' w => ?_⟩
  obtain ⟨ρ', μ', s', c, w⟩ := w
  obtain ⟨b, hb, h1, h2⟩ := hs m ρ' μ' w
  refine hb σ' H' s' _ fun b' H1 e1 s1 p1 => ?_
  rw [show b' = b from p1]
  cases b with
  | true =>
    refine iteT ⟨_, fun σ2 H2 n2 => n2, h1 rfl σ' H1 _ s1 (fun σ2 H2 ρ2 μ2 e2 s2 n2 => ?_) fun v3 H3 d3 μ3 e3 s3 r3 p3 => qr v3 H3 d3 μ3 (c.trans (e1.trans e3)) s3 r3 p3⟩
    obtain ⟨m', hm, n2⟩ := n2
    exact ⟨m', hm, ρ2, μ2, s2, c.trans (e1.trans e2), n2⟩
  | false => exact iteF (qn σ' H1 ρ' μ' (c.trans e1) s1 (h2 rfl))

theorem nd_ixA {l : List Addr} (hN : l.Nodup) {i j : Nat} {x : Addr} (a : l[i]? = some x) (b : l[j]? = some x) : i = j := by
  obtain ⟨h1, e1⟩ := List.getElem?_eq_some_iff.mp a
  obtain ⟨h2, e2⟩ := List.getElem?_eq_some_iff.mp b
  exact (List.getElem_inj hN).mp (e1.trans e2.symm)
/-! ### a new list that is going to change -/
abbrev Wd.ext (W : Wd) (p : Addr) : Wd := ⟨W.CN, fun a => W.U a ∨ a = p, W.V, W.A ++ [p], W.n0⟩
theorem CellOk.bar {CN : Addr} {U : Addr → Prop} {a l : Addr} (hl : H l = none) {c : Cell} (h : CellOk CN U H a c) : CellOk CN (fun a => U a ∨ a = l) H a c := by
  cases c with
  | urn => exact h
  | ml ds => obtain ⟨xs, e, r⟩ := h; exact ⟨xs, e, r.bar hl⟩
  | ah c f => obtain ⟨xs, e, r⟩ := h; exact ⟨xs, e, r.mapU fun _ _ _ _ z => z.bar hl⟩
  | dt c f => exact h
  | tab q =>
    obtain ⟨ps, q1, q2, q3⟩ := h
    refine ⟨ps, q1, q2, fun pos cv z => ?_⟩
    obtain ⟨c, e1, e2, e3⟩ := q3 pos cv z
    refine ⟨c, e1, fun z => z.elim e2 fun z => ?_, e3⟩
    rw [z, hl] at e3
    cases e3
/-- what is known of a place that became a cell -/
structure Fr (W : Wd) (p : Addr) : Prop where
  vsub : ∀ a, W.V a → W.U a
  sub : ∀ a ∈ W.A, W.U a
  nd : W.A.Nodup
  n0 : W.n0 ≤ W.A.length
  nU : ¬ W.U p
theorem Sto.fr {p : Addr} (s : Sto W H μ) (hp : H p = none) : Fr W p := ⟨s.vsub, s.sub, s.nd, s.n0, fun z => s.uok p z hp⟩
/-- a fresh place becomes a cell -/
theorem Stt.ext {p : Addr} {o : HO} {c : Cell} (s : Stt W σ H ρ μ) (hp : H p = none) (hc : CellOk W.CN (W.ext p).U (upd H p o) p c) : Stt (W.ext p) σ (upd H p o) ρ (μ ++ [c]) := by
  have nA : p ∉ W.A := Stt.notA s.sto hp
  have sm : Same H (upd H p o) := same_new hp
  refine ⟨⟨fun j c' h => ?_, fun a h => ?_, fun a h => .inl (s.sto.vsub a h), fun a h => ?_, ?_, ?_, ?_⟩, fun i x h => ?_, s.len⟩
  · by_cases hj : j < μ.length
    · rw [List.getElem?_append_left hj] at h
      obtain ⟨a, h1, h2⟩ := s.sto.cell j c' h
      refine ⟨a, ?_, (h2.bar hp).stay (Kept.of sm) (sm a)⟩
      show (W.A ++ [p])[j]? = some a
      rw [List.getElem?_append_left (by rw [← s.sto.len]; exact hj)]
      exact h1
    · have hj2 : j = μ.length := by
        have := (List.getElem?_eq_some_iff.mp h).1
        rw [List.length_append, List.length_singleton] at this
        omega
      subst hj2
      rw [List.getElem?_append_right (Nat.le_refl _), Nat.sub_self] at h
      cases h
      refine ⟨p, ?_, hc⟩
      show (W.A ++ [p])[μ.length]? = some p
      rw [s.sto.len, List.getElem?_append_right (Nat.le_refl _), Nat.sub_self]
      rfl
  · rcases h with h | h
    · intro z
      cases q : H a with
      | none => exact s.sto.uok a h q
      | some u => rw [sm a u q] at z; cases z
    · rw [h, upd_same]
      intro z
      cases z
  · rcases List.mem_append.mp h with h | h
    · exact .inl (s.sto.sub a h)
    · exact .inr (List.mem_singleton.mp h)
  · refine List.nodup_append.mpr ⟨s.sto.nd, by simp, fun a ha b hb e => ?_⟩
    rw [List.mem_singleton] at hb
    exact nA (by rw [← hb, ← e]; exact ha)
  · rw [List.length_append, List.length_singleton]
    show μ.length + 1 = (W.A ++ [p]).length
    rw [List.length_append, List.length_singleton, s.sto.len]
  · show W.n0 ≤ (W.A ++ [p]).length
    rw [List.length_append]
    have := s.sto.n0
    omega
  · have q := s.sl i x h
    cases x with
    | no => trivial
    | d x =>
      obtain ⟨v, q1, q2⟩ := q
      exact ⟨v, q1, (q2.bar hp).kept (Kept.of sm)⟩
    | c j =>
      obtain ⟨a, q1, q2⟩ := q
      refine ⟨a, ?_, q2⟩
      show (W.A ++ [p])[j]? = some a
      rw [List.getElem?_append_left (List.getElem?_eq_some_iff.mp q1).1]
      exact q1
    | s K ns =>
      obtain ⟨a, q1, q2⟩ := q
      exact ⟨a, q1, (q2.bar hp).kept (Kept.of sm)⟩
theorem Stt.setC (s : Stt W σ H ρ μ) {i j : Nat} (hi : i < ρ.length) {a : Addr} (h : W.A[j]? = some a) : Stt W (σ.set i (some (.ref a))) H (ρ.set i (.c j)) μ where
  sto := s.sto
  sl := fun k x q => by
    by_cases e : k = i
    · subst e
      rw [List.getElem?_set_self hi] at q
      cases q
      exact ⟨a, h, by rw [List.getElem?_set_self (by rw [s.len]; exact hi)]⟩
    · rw [List.getElem?_set_ne (Ne.symm e)] at q
      have z := s.sl k x q
      cases x with
      | no => trivial
      | d x =>
        obtain ⟨v', q1, q2⟩ := z
        exact ⟨v', by rw [List.getElem?_set_ne (Ne.symm e)]; exact q1, q2⟩
      | c l =>
        obtain ⟨a, q1, q2⟩ := z
        exact ⟨a, q1, by rw [List.getElem?_set_ne (Ne.symm e)]; exact q2⟩
      | s K ns =>
        obtain ⟨a, q1, q2⟩ := z
        exact ⟨a, by rw [List.getElem?_set_ne (Ne.symm e)]; exact q1, q2⟩
  len := by rw [List.length_set, List.length_set]; exact s.len
/-- te makes a new object, a cell from now on -/
def EvF (W : Wd) (te : TE) (ρ : List Sl) (μ : List Cell) (P : Cell → Prop) : Prop :=
  ∀ σ H, Stt W σ H ρ μ → ∀ Q : VK, (∀ p H' c, H p = none → Ch W.A H H' → Stt (W.ext p) σ H' ρ (μ ++ [c]) → P c → Q (.ref p) H') → te σ H Q
theorem Ch.ext {p : Addr} {H1 : Hp} (hp : H p = none) (e : Ch (W.ext p).A H1 H') (h : Ch W.A H H1) : Ch W.A H H' := fun a o n q => e a o (fun z => by
  rcases List.mem_append.mp z with z | z
  · exact n z
  · rw [List.mem_singleton.mp z] at q
    rw [hp] at q
    cases q) (h a o n q)
theorem Fin0.cut {p : Addr} {μ' : List Cell} (f : Fr W p) (s : Fin0 (W.ext p) H μ') : Fin0 W H μ' where
  len := s.len
  cell := fun j c h => by
    obtain ⟨a, h1, h2⟩ := s.cell j c h
    have hj : j < μ'.length := (List.getElem?_eq_some_iff.mp h).1
    have hl : μ'.length = W.n0 := s.len
    have h1' : (W.A ++ [p])[j]? = some a := h1
    rw [List.getElem?_append_left (by have := f.n0; omega)] at h1'
    exact ⟨a, h1', h2⟩
theorem Fin0.ext {p : Addr} {μ' : List Cell} (f : Fr W p) (s : Fin0 W H μ') : Fin0 (W.ext p) H μ' where
  len := s.len
  cell := fun j c h => by
    obtain ⟨a, h1, h2⟩ := s.cell j c h
    have hj : j < μ'.length := (List.getElem?_eq_some_iff.mp h).1
    have hl : μ'.length = W.n0 := s.len
    refine ⟨a, ?_, h2⟩
    show (W.A ++ [p])[j]? = some a
    rw [List.getElem?_append_left (by have := f.n0; omega)]
    exact h1
theorem sv_new {PC : Cell → Prop} {i : Nat} (h : EvF W te ρ μ PC)
    (k : ∀ p c, Fr W p → PC c → SvP (W.ext p) t2 (ρ.set i (.c μ.length)) (μ ++ [c]) (fun _ _ => False) R) (hi : Nat.ble (i + 1) ρ.length = true := by rfl) : SvP W (tSeq (tAsg te (gName i)) t2) ρ μ N R := fun σ H E s qn qr =>
  h σ H s _ fun p H1 c hp e1 s1 p1 => by
    have f : Fr W p := s.sto.fr hp
    refine k p c f p1 _ H1 E (s1.setC (Nat.le_of_ble_eq_true hi) ?_) (fun _ _ _ _ _ _ n => n.elim) fun v H2 d μ2 e2 s2 r2 p2 => qr v H2 d _ (Ch.ext hp e2 e1) (s2.cut f) r2 p2
    show (W.A ++ [p])[μ.length]? = some p
    rw [s.sto.len, List.getElem?_append_right (Nat.le_refl _), Nat.sub_self]
    rfl
/-- [..], {} -/
theorem ef_lst {ta : TA} {PA : List D → Prop} (h : EvA W ta ρ μ PA) (hl : ∀ ds, PA ds → ds.length ≤ 1000) : EvF W (tLst ta) ρ μ (fun c => ∃ ds, c = .ml ds ∧ PA ds) := fun σ H s Q q =>
  h σ H s _ fun vs H1 ds e1 s1 r1 p1 => ⟨by rw [r1.length]; exact Nat.le_of_lt (small1000 (hl ds p1)), fun p hp => by
    have hp0 : H p = none := by
      cases z : H p with
      | none => rfl
      | some o => rw [e1 p o (Stt.notA s1.sto hp) z] at hp; cases hp
    exact q p _ (.ml ds) hp0 (e1.trans (Ch.of (same_new hp))) (s1.ext hp ⟨vs, upd_same, (r1.bar hp).kept (Kept.of (same_new hp))⟩) ⟨ds, rfl, p1⟩⟩
theorem ef_nil : EvF W (tLst tNil) ρ μ (Is (.ml [])) := fun σ H s Q q => ef_lst (ea_nil) (fun ds e => by rw [show ds = [] from e]; exact Nat.zero_le _) σ H s Q fun p H' c hp e s' pc => q p H' c hp e s' (by
  obtain ⟨ds, rfl, e2⟩ := pc
  rw [show ds = [] from e2]
  rfl)
theorem ef_dnewK : EvF W tDNewK ρ μ (Is (.ah 0 fun _ => none)) := fun σ H s Q q => fun p hp => q p _ (.ah 0 fun _ => none) hp (Ch.of (same_new hp)) (s.ext hp ⟨[], upd_same, Nat.le_refl _, fun _ => rfl⟩) rfl
/-- found.append(e) -/
theorem sv_app {K : PySem.W.Frag} {i j : Nat} {ds : List D} (hr : ρ[i]? = some (.c j)) (hm : μ[j]? = some (.ml ds)) (hl : ds.length < 1000) (h : EvP W te ρ μ P) (k : ∀ d, P d → N ρ (μ.set j (.ml (ds ++ [d])))) :
    SvP W (tDrop (tBM K "list" rAppend (tVar i) (tCons te tNil))) ρ μ N R := fun σ H E s qn qr => by
  obtain ⟨a, ha, hσ⟩ := s.sl i _ hr
  obtain ⟨a', ha', xs, ex, rx⟩ := s.sto.cell j _ hm
  rw [ha] at ha'
  cases ha'
  refine ⟨.ref a, hσ, .inl ⟨rfl, xs, SqL.of ex⟩, h σ H s _ fun v H1 d e1 s1 r1 p1 => ?_⟩
  obtain ⟨a', ha', xs1, ex1, rx1⟩ := s1.sto.cell j _ hm
  rw [ha] at ha'
  cases ha'
  refine ⟨a, xs1, v, rfl, rfl, ex1, by rw [rx1.length]; exact small1000 (Nat.le_of_lt hl), ?_⟩
  have hA : a ∈ W.A := List.mem_of_getElem? ha
  have kp : Kept W.U H1 (upd H1 a (.lst (xs1 ++ [v]))) := fun b o nb e => by
    rw [upd_ne fun z => nb (by rw [z]; exact s.sto.sub a hA)]
    exact e
  refine qn σ _ ρ _ (e1.trans fun b o nb e => ?_) (s1.kept kp ⟨fun l c h => ?_, fun b hb => ?_, s.sto.vsub, s.sto.sub, s.sto.nd, by rw [List.length_set]; exact s.sto.len, s.sto.n0⟩) (k d p1)
  · rw [upd_ne fun z => nb (by rw [z]; exact hA)]
    exact e
  · by_cases e : l = j
    · subst e
      rw [List.getElem?_set_self (List.getElem?_eq_some_iff.mp hm).1] at h
      cases h
      exact ⟨a, ha, _, upd_same, (RpL.append (es := [d]) rx1 ⟨v, [], rfl, r1, rfl⟩).kept kp⟩
    · rw [List.getElem?_set_ne (Ne.symm e)] at h
      obtain ⟨b, hb, cb⟩ := s1.sto.cell l c h
      refine ⟨b, hb, cb.stay kp fun o q => ?_⟩
      rw [upd_ne fun z => e (nd_ixA s.sto.nd hb (by rw [z]; exact ha))]
      exact q
  · by_cases e : b = a
    · rw [e, upd_same]
      intro z
      cases z
    · rw [upd_ne e]
      exact s1.sto.uok b hb
/-- the last cell is no longer going to change: it is data from now on -/
def Cell.dat : Cell → D
  | .urn => .non
  | .ml ds => .lst ds
  | .ah c f => .ah c f
  | .dt c f => .dt c f
  | .tab _ => .non
def Cell.isUrn : Cell → Bool
  | .urn => true
  | .tab _ => true
  | _ => false
theorem sv_freeze {p : Addr} {i : Nat} {c : Cell} (f : Fr W p) (hc : c.isUrn = false) (hr : ρ[i]? = some (.c μ.length)) (ho : ∀ (k : Nat), ρ[k]? = some (.c μ.length) → k = i) (k : SvP W ts (ρ.set i (.d c.dat)) μ (fun _ _ => False) R) :
    SvP (W.ext p) ts ρ (μ ++ [c]) N R := fun σ H E s qn qr => by
  have hlen : μ.length = W.A.length := by
    have h1 := s.sto.len
    have h2 : (W.ext p).A.length = W.A.length + 1 := by
      show (W.A ++ [p]).length = _
      rw [List.length_append, List.length_singleton]
    rw [List.length_append, List.length_singleton] at h1
    omega
  have hU : ∀ a, W.U a → (W.ext p).U a := fun a z => .inl z
  have hcell : CellOk W.CN W.U H p c := by
    obtain ⟨a, h1, h2⟩ := s.sto.cell μ.length c (by rw [List.getElem?_append_right (Nat.le_refl _), Nat.sub_self]; rfl)
    have h1' : (W.A ++ [p])[μ.length]? = some a := h1
    rw [hlen, List.getElem?_append_right (Nat.le_refl _), Nat.sub_self] at h1'
    cases h1'
    exact h2.weak hU
  have hrp : Rp W.CN W.U H c.dat (.ref p) := by
    cases c with
    | urn => cases hc
    | ml ds => obtain ⟨xs, e, r⟩ := hcell; exact ⟨p, xs, rfl, f.nU, e, r⟩
    | ah m g => obtain ⟨xs, e, r⟩ := hcell; exact ⟨p, xs, rfl, f.nU, e, r⟩
    | dt m g => obtain ⟨xs, e, r⟩ := hcell; exact ⟨p, xs, rfl, f.nU, e, r⟩
    | tab q => cases hc
  have hi : i < ρ.length := (List.getElem?_eq_some_iff.mp hr).1
  have st : Stt W σ H (ρ.set i (.d c.dat)) μ := by
    refine ⟨⟨fun j c' h => ?_, fun a h => s.sto.uok a (hU a h), f.vsub, f.sub, f.nd, hlen, f.n0⟩, fun j x h => ?_, by rw [List.length_set]; exact s.len⟩
    · have hj : j < μ.length := (List.getElem?_eq_some_iff.mp h).1
      obtain ⟨a, h1, h2⟩ := s.sto.cell j c' (by rw [List.getElem?_append_left hj]; exact h)
      have h1' : (W.A ++ [p])[j]? = some a := h1
      rw [List.getElem?_append_left (by omega)] at h1'
      exact ⟨a, h1', h2.weak hU⟩
    · by_cases e : j = i
      · subst e
        rw [List.getElem?_set_self hi] at h
        cases h
        obtain ⟨a, h1, h2⟩ := s.sl j _ hr
        have h1' : (W.A ++ [p])[μ.length]? = some a := h1
        rw [hlen, List.getElem?_append_right (Nat.le_refl _), Nat.sub_self] at h1'
        cases h1'
        exact ⟨_, h2, hrp⟩
      · rw [List.getElem?_set_ne (Ne.symm e)] at h
        have q := s.sl j x h
        cases x with
        | no => trivial
        | d x =>
          obtain ⟨v, q1, q2⟩ := q
          exact ⟨v, q1, q2.weak hU⟩
        | c l =>
          obtain ⟨a, q1, q2⟩ := q
          have q1' : (W.A ++ [p])[l]? = some a := q1
          have hl : l < (W.A ++ [p]).length := (List.getElem?_eq_some_iff.mp q1').1
          rw [List.length_append, List.length_singleton] at hl
          have hl2 : l ≠ μ.length := fun z => e (ho j (by rw [h, z]))
          rw [List.getElem?_append_left (by omega)] at q1'
          exact ⟨a, q1', q2⟩
        | s K ns =>
          obtain ⟨a, q1, q2⟩ := q
          exact ⟨a, q1, q2.weak hU⟩
  exact k σ H E st (fun _ _ _ _ _ _ n => n.elim) fun v H2 d μ2 e2 s2 r2 p2 => qr v H2 d μ2 (e2.sub fun a z => List.mem_append_left _ z) (s2.ext f) r2 p2
end
end RN
end

section
set_option Elab.async false
set_option linter.all false
set_option maxRecDepth 100000
set_option maxHeartbeats 2000000
/-! RN_Core3: comprehensions, built-in calls, own calls, promises over data. -/
namespace RN
open PySem PySem.Spec L2
section
variable {W : Wd} {σ : L2.St} {H H' : Hp} {ρ : List Sl} {μ : List Cell}
variable {te ta tb tc tl : TE} {tt tu : TT} {P Pa Pb : D → Prop} {PB PB' : Bool → Prop} {N N' N1 : List Sl → List Cell → Prop} {R : D → List Cell → Prop} {ts t1 t2 : TS} {g : TG}

/-! ### a block's own slots -/
theorem wipe_get (σ : L2.St) (i : Nat) : ∀ vs : List Nat, (wipe σ vs)[i]? = if i ∈ vs then (σ[i]?).map (fun _ => none) else σ[i]?
  | [] => by
    rw [if_neg List.not_mem_nil]
    rfl
  | v :: vs => by
    show ((wipe σ vs).set v none)[i]? = _
    by_cases e : i = v
    · subst e
      rw [if_pos List.mem_cons_self, List.getElem?_set_self']
      rw [wipe_get σ i vs]
      split <;> cases σ[i]? <;> rfl
    · rw [List.getElem?_set_ne (Ne.symm e), wipe_get σ i vs]
      by_cases h : i ∈ vs
      · rw [if_pos h, if_pos (List.mem_cons_of_mem _ h)]
      · rw [if_neg h, if_neg fun z => (List.mem_cons.mp z).elim e h]
theorem wipe_wipe (σ : L2.St) (vs : List Nat) : wipe (wipe σ vs) vs = wipe σ vs := by
  refine List.ext_getElem? fun i => ?_
  rw [wipe_get, wipe_get]
  split
  · cases σ[i]? <;> rfl
  · rfl
theorem wipe_set (σ : L2.St) {vs : List Nat} {i : Nat} (hi : i ∈ vs) (o : Option V) : wipe (σ.set i o) vs = wipe σ vs := by
  refine List.ext_getElem? fun j => ?_
  rw [wipe_get, wipe_get]
  by_cases e : j = i
  · subst e
    rw [if_pos hi, if_pos hi, List.getElem?_set_self']
    cases σ[j]? <;> rfl
  · rw [List.getElem?_set_ne (Ne.symm e)]
def wipeR (ρ : List Sl) : List Nat → List Sl
  | [] => ρ
  | v :: vs => (wipeR ρ vs).set v .no
theorem wipeR_len (ρ : List Sl) : ∀ vs : List Nat, (wipeR ρ vs).length = ρ.length
  | [] => rfl
  | v :: vs => by
    show ((wipeR ρ vs).set v .no).length = _
    rw [List.length_set, wipeR_len ρ vs]
theorem wipeR_some (ρ : List Sl) {i : Nat} {x : Sl} : ∀ {vs : List Nat}, (wipeR ρ vs)[i]? = some x → x = .no ∨ (i ∉ vs ∧ ρ[i]? = some x)
  | [], h => .inr ⟨List.not_mem_nil, h⟩
  | v :: vs, h => by
    have h' : ((wipeR ρ vs).set v .no)[i]? = some x := h
    by_cases e : i = v
    · subst e
      rw [List.getElem?_set_self'] at h'
      cases q : (wipeR ρ vs)[i]? with
      | none => rw [q] at h'; cases h'
      | some y =>
        rw [q] at h'
        exact .inl (Option.some.inj h').symm
    · rw [List.getElem?_set_ne (Ne.symm e)] at h'
      rcases wipeR_some ρ h' with q | ⟨q1, q2⟩
      · exact .inl q
      · exact .inr ⟨fun z => (List.mem_cons.mp z).elim e q1, q2⟩
theorem Stt.wipe (s : Stt W σ H ρ μ) (vs : List Nat) : Stt W (L2.wipe σ vs) H (wipeR ρ vs) μ where
  sto := s.sto
  sl := fun i x h => by
    rcases wipeR_some ρ h with rfl | ⟨n, h⟩
    · trivial
    · have q := s.sl i x h
      have e : (L2.wipe σ vs)[i]? = σ[i]? := by rw [wipe_get, if_neg n]
      cases x with
      | no => trivial
      | d x =>
        obtain ⟨v, q1, q2⟩ := q
        exact ⟨v, e.trans q1, q2⟩
      | c j =>
        obtain ⟨a, q1, q2⟩ := q
        exact ⟨a, q1, e.trans q2⟩
      | s K ns =>
        obtain ⟨a, q1, q2⟩ := q
        exact ⟨a, e.trans q1, q2⟩
  len := by rw [wipe_length, wipeR_len, s.len]
/-- a target that stores into the slots vs alone -/
structure Wp (g : TG) (vs : List Nat) : Prop where
  mono : ∀ v σ H (Q Q' : L2.St → Hp → Prop), (∀ σ' H', Q σ' H' → Q' σ' H') → g v σ H Q → g v σ H Q'
  wp : ∀ v σ H (Q : L2.St → Hp → Prop), g v σ H Q → g v σ H fun σ' H' => wipe σ' vs = wipe σ vs ∧ Q σ' H'
structure WpS (t : TGs) (vs : List Nat) : Prop where
  mono : ∀ v σ H (Q Q' : L2.St → Hp → Prop), (∀ σ' H', Q σ' H' → Q' σ' H') → t v σ H Q → t v σ H Q'
  wp : ∀ v σ H (Q : L2.St → Hp → Prop), t v σ H Q → t v σ H fun σ' H' => wipe σ' vs = wipe σ vs ∧ Q σ' H'
theorem wp_name {i : Nat} {vs : List Nat} (h : i ∈ vs) : Wp (gName i) vs := ⟨fun v σ H Q Q' k q => k _ _ q, fun v σ H Q q => ⟨wipe_set σ h _, q⟩⟩
theorem wps_nil {vs : List Nat} : WpS gNil vs := ⟨fun v σ H Q Q' k q => ⟨q.1, k _ _ q.2⟩, fun v σ H Q q => ⟨q.1, rfl, q.2⟩⟩
theorem wps_cons {t : TG} {u : TGs} {vs : List Nat} (h : Wp t vs) (h' : WpS u vs) : WpS (gCons t u) vs := ⟨fun v σ H Q Q' k q => by
    obtain ⟨x, r, e, q⟩ := q
    exact ⟨x, r, e, h.mono _ _ _ _ _ (fun σ' H' z => h'.mono _ _ _ _ _ k z) q⟩, fun v σ H Q q => by
    obtain ⟨x, r, e, q⟩ := q
    refine ⟨x, r, e, h.mono _ _ _ _ _ (fun σ' H' z => ?_) (h.wp _ _ _ _ q)⟩
    exact h'.mono _ _ _ _ _ (fun σ2 H2 z2 => ⟨z2.1.trans z.1, z2.2⟩) (h'.wp _ _ _ _ z.2)⟩
theorem wp_tup {K : PySem.W.Frag} {n : Nat} {t : TGs} {vs : List Nat} (h : WpS t vs) : Wp (gTup K n t) vs := ⟨fun v σ H Q Q' k q => by
    obtain ⟨a, xs, e, q1, q2, q⟩ := q
    exact ⟨a, xs, e, q1, q2, h.mono _ _ _ _ _ k q⟩, fun v σ H Q q => by
    obtain ⟨a, xs, e, q1, q2, q⟩ := q
    exact ⟨a, xs, e, q1, q2, h.wp _ _ _ _ q⟩⟩

/-! ### comprehensions -/
theorem Sto.put {j : Nat} {a : Addr} {o : HO} {c0 c : Cell} (s : Sto W H μ) (ha : W.A[j]? = some a) (hm : μ[j]? = some c0) (hc : CellOk W.CN W.U (upd H a o) a c) : Sto W (upd H a o) (μ.set j c) ∧ Kept W.U H (upd H a o) := by
  have hA : a ∈ W.A := List.mem_of_getElem? ha
  have kp : Kept W.U H (upd H a o) := fun b o nb e => by
    rw [upd_ne fun z => nb (by rw [z]; exact s.sub a hA)]
    exact e
  refine ⟨⟨fun l c' h => ?_, fun b hb => ?_, s.vsub, s.sub, s.nd, by rw [List.length_set]; exact s.len, s.n0⟩, kp⟩
  · by_cases e : l = j
    · subst e
      rw [List.getElem?_set_self (List.getElem?_eq_some_iff.mp hm).1] at h
      cases h
      exact ⟨a, ha, hc⟩
    · rw [List.getElem?_set_ne (Ne.symm e)] at h
      obtain ⟨b, hb, cb⟩ := s.cell l c' h
      refine ⟨b, hb, cb.stay kp fun o q => ?_⟩
      rw [upd_ne fun z => e (nd_ixA s.nd hb (by rw [z]; exact ha))]
      exact q
  · by_cases e : b = a
    · rw [e, upd_same]
      intro z
      cases z
    · rw [upd_ne e]
      exact s.uok b hb
theorem Stt.shrink {p : Addr} {c : Cell} {σ0 : L2.St} {H0 : Hp} (s0 : Stt W σ0 H0 ρ μ) (s : Stt (W.ext p) σ H ρ (μ ++ [c])) : Stt W σ H ρ μ := by
  have hU : ∀ a, W.U a → (W.ext p).U a := fun a z => .inl z
  have hlen := s0.sto.len
  refine ⟨⟨fun j c' h => ?_, fun a h => s.sto.uok a (hU a h), s0.sto.vsub, s0.sto.sub, s0.sto.nd, hlen, s0.sto.n0⟩, fun j x h => ?_, s.len⟩
  · have hj : j < μ.length := (List.getElem?_eq_some_iff.mp h).1
    obtain ⟨a, h1, h2⟩ := s.sto.cell j c' (by rw [List.getElem?_append_left hj]; exact h)
    have h1' : (W.A ++ [p])[j]? = some a := h1
    rw [List.getElem?_append_left (by omega)] at h1'
    exact ⟨a, h1', h2.weak hU⟩
  · have q := s.sl j x h
    have q0 := s0.sl j x h
    cases x with
    | no => trivial
    | d x =>
      obtain ⟨v, q1, q2⟩ := q
      exact ⟨v, q1, q2.weak hU⟩
    | c l =>
      obtain ⟨a, q1, q2⟩ := q
      obtain ⟨a0, q3, q4⟩ := q0
      have q1' : (W.A ++ [p])[l]? = some a := q1
      rw [List.getElem?_append_left (List.getElem?_eq_some_iff.mp q3).1] at q1'
      exact ⟨a, q1', q2⟩
    | s K ns =>
      obtain ⟨a, q1, q2⟩ := q
      exact ⟨a, q1, q2.weak hU⟩
theorem ev_lcN {wi : TI} {PD : List D → Prop} {vs : List Nat} (Inv : List D → Nat → List D → Prop) (h : IvP W wi ρ μ PD) (hw : Wp g vs) (hz : ∀ ds, PD ds → ds.length < 1000) (h0 : ∀ ds, PD ds → Inv ds 0 [])
    (hs : ∀ (ds : List D) (i : Nat) (d : D) p acc, PD ds → ds[i]? = some d → Inv ds i acc → GvP (W.ext p) g (wipeR ρ vs) (μ ++ [.ml acc]) d fun ρ2 μ2 => μ2 = μ ++ [.ml acc] ∧
      ∃ b, EvB (W.ext p) tt ρ2 μ2 (Is b) ∧ (b = true → EvP (W.ext p) te ρ2 μ2 fun e => Inv ds (i + 1) (acc ++ [e])) ∧ (b = false → Inv ds (i + 1) acc)) :
    EvP W (tLc wi g tt te vs) ρ μ (fun d => ∃ ds es, PD ds ∧ d = .lst es ∧ es.length ≤ ds.length ∧ Inv ds ds.length es) := fun σ H s Q q =>
  h σ H s _ fun J H1 ds e1 s1 it p1 => fun Dl hD => by
    have f : Fr W Dl := s1.sto.fr hD
    have sm0 : Same H1 (upd H1 Dl (.lst [])) := same_new hD
    have st0 : Stt (W.ext Dl) σ (upd H1 Dl (.lst [])) ρ (μ ++ [.ml []]) := s1.ext hD ⟨[], upd_same, rfl⟩
    refine ⟨fun i m H' => m + i = ds.length ∧ ∃ acc, Stt (W.ext Dl) σ H' ρ (μ ++ [.ml acc]) ∧ Ch (W.ext Dl).A (upd H1 Dl (.lst [])) H' ∧ acc.length ≤ i ∧ Inv ds i acc, ⟨ds.length, Nat.add_zero _, [], st0, Ch.refl _ _, Nat.le_refl _, h0 ds p1⟩, fun i m H' w => ?_⟩
    obtain ⟨hm, acc, s', c, hacc, w⟩ := w
    have c1 : Ch (W.ext Dl).A H1 H' := (Ch.of sm0).trans c
    obtain ⟨i1, i2, i3⟩ := it (W.ext Dl).U H' (fun a z => z.elim .inl fun e => .inr (by rw [e]; exact hD)) s'.sto.uok (c1.kept s'.sto.sub)
    by_cases hi : i < ds.length
    · refine .inr ⟨i1 i hi, fun H3 => m - 1 + (i + 1) = ds.length ∧ ∃ acc, Stt (W.ext Dl) σ H3 ρ (μ ++ [.ml acc]) ∧ Ch (W.ext Dl).A (upd H1 Dl (.lst [])) H3 ∧ acc.length ≤ i + 1 ∧ Inv ds (i + 1) acc, fun H3 n3 => ⟨m - 1, by omega, n3⟩, fun x H2 y => ?_⟩
      obtain ⟨sm, d, hd', rx⟩ := i3 i x H2 hi y
      have s2 : Stt (W.ext Dl) (wipe σ vs) H2 (wipeR ρ vs) (μ ++ [.ml acc]) := (s'.same sm).wipe vs
      have hg := hs ds i d Dl acc p1 hd' w (wipe σ vs) H2 x s2 rx (fun σ2 H3 => tt σ2 H3 fun b H4 => if b = true then te σ2 H4 fun y H5 => ∃ acc, H5 Dl = some (.lst acc) ∧ acc.length < sizeLine ∧
        (m - 1 + (i + 1) = ds.length ∧ ∃ ac2, Stt (W.ext Dl) σ (upd H5 Dl (.lst (acc ++ [y]))) ρ (μ ++ [.ml ac2]) ∧ Ch (W.ext Dl).A (upd H1 Dl (.lst [])) (upd H5 Dl (.lst (acc ++ [y]))) ∧ ac2.length ≤ i + 1 ∧ Inv ds (i + 1) ac2) else
        (m - 1 + (i + 1) = ds.length ∧ ∃ ac2, Stt (W.ext Dl) σ H4 ρ (μ ++ [.ml ac2]) ∧ Ch (W.ext Dl).A (upd H1 Dl (.lst [])) H4 ∧ ac2.length ≤ i + 1 ∧ Inv ds (i + 1) ac2)) fun σ2 H3 ρ2 μ2 e3 s3 n3 => ?_
      · refine hw.mono _ _ _ _ _ (fun σ2 H3 z => ⟨z.1.trans (wipe_wipe σ vs), z.2⟩) (hw.wp _ _ _ _ hg)
      · obtain ⟨rfl, b, hb, ht, hf⟩ := n3
        refine hb σ2 H3 s3 _ fun b' H4 e4 s4 p4 => ?_
        have c4 : Ch (W.ext Dl).A H' H4 := (Ch.of sm).trans (e3.trans e4)
        rw [show b' = b from p4]
        cases b with
        | true =>
          refine iteT (ht rfl σ2 H4 s4 _ fun y H5 e e5 s5 r5 p5 => ?_)
          have c5 : Ch (W.ext Dl).A H' H5 := c4.trans e5
          obtain ⟨a', ha', xs5, ex5, rx5⟩ := s5.sto.cell μ.length _ (by rw [List.getElem?_append_right (Nat.le_refl _), Nat.sub_self]; rfl)
          have hA : (W.ext Dl).A[μ.length]? = some Dl := by
            show (W.A ++ [Dl])[μ.length]? = some Dl
            rw [s1.sto.len, List.getElem?_append_right (Nat.le_refl _), Nat.sub_self]
            rfl
          rw [hA] at ha'
          cases ha'
          have hx : (μ ++ [Cell.ml acc])[μ.length]? = some (.ml acc) := by rw [List.getElem?_append_right (Nat.le_refl _), Nat.sub_self]; rfl
          have rl5 : RpL W.CN (W.ext Dl).U H5 (acc ++ [e]) (xs5 ++ [y]) := RpL.append (es := [e]) rx5 ⟨y, [], rfl, r5, rfl⟩
          have kp5 : Kept (W.ext Dl).U H5 (upd H5 Dl (.lst (xs5 ++ [y]))) := fun b o nb e => by
            rw [upd_ne fun z => nb (.inr z)]
            exact e
          obtain ⟨s6, k6⟩ := s5.sto.put (o := .lst (xs5 ++ [y])) (c := .ml (acc ++ [e])) hA hx ⟨xs5 ++ [y], upd_same, rl5.kept kp5⟩
          have hset : (μ ++ [Cell.ml acc]).set μ.length (.ml (acc ++ [e])) = μ ++ [.ml (acc ++ [e])] := by
            rw [List.set_append_right _ _ (Nat.le_refl _), Nat.sub_self]
            rfl
          rw [hset] at s6
          have k7 : Kept (W.ext Dl).U H' (upd H5 Dl (.lst (xs5 ++ [y]))) := fun b o nb q => k6 b o nb ((c5.kept s'.sto.sub) b o nb q)
          refine ⟨xs5, ex5, ?_, by omega, acc ++ [e], s'.kept k7 s6, (c.trans c5).trans fun b o nb q => ?_, by rw [List.length_append, List.length_singleton]; omega, p5⟩
          · rw [rx5.length]
            have := hz ds p1
            exact small1000 (by omega)
          · rw [upd_ne fun z => nb (by rw [z]; exact List.mem_of_getElem? hA)]
            exact q
        | false =>
          refine iteF ⟨by omega, acc, s'.kept (c4.kept s'.sto.sub) s4.sto, c.trans c4, by omega, hf rfl⟩
    · have e : i = ds.length := by omega
      subst e
      refine .inl ⟨i2, ?_⟩
      have sW : Stt W σ H' ρ μ := s1.shrink s'
      obtain ⟨a', ha', xs5, ex5, rx5⟩ := s'.sto.cell μ.length _ (by rw [List.getElem?_append_right (Nat.le_refl _), Nat.sub_self]; rfl)
      have hA : (W.ext Dl).A[μ.length]? = some Dl := by
        show (W.A ++ [Dl])[μ.length]? = some Dl
        rw [s1.sto.len, List.getElem?_append_right (Nat.le_refl _), Nat.sub_self]
        rfl
      rw [hA] at ha'
      cases ha'
      have hD0 : H Dl = none := by
        cases z : H Dl with
        | none => rfl
        | some o => rw [e1 Dl o (Stt.notA s1.sto hD) z] at hD; cases hD
      exact q (.ref Dl) H' (.lst acc) (e1.trans (Ch.ext hD c1 (Ch.refl _ _))) sW ⟨Dl, xs5, rfl, f.nU, ex5, rx5.weak fun a z => .inl z⟩ ⟨ds, acc, p1, rfl, hacc, w⟩
/-- each item gives f of it -/
theorem ev_map {wi : TI} {ds : List D} {vs : List Nat} {f : D → D} (h : IvP W wi ρ μ (Is ds)) (hw : Wp g vs) (hz : ds.length < 1000)
    (hs : ∀ (i : Nat) (d : D) p acc, ds[i]? = some d → GvP (W.ext p) g (wipeR ρ vs) (μ ++ [.ml acc]) d fun ρ2 μ2 => μ2 = μ ++ [.ml acc] ∧ EvP (W.ext p) te ρ2 μ2 (Is (f d))) :
    EvP W (tLc wi g tYes te vs) ρ μ (Is (.lst (ds.map f))) := by
  refine (ev_lcN (fun ds' i acc => acc = (ds'.take i).map f) h hw (fun ds' e => by rw [show ds' = ds from e]; exact hz) (fun ds' e => rfl) fun ds' i d p acc e hd ha => ?_).imp ?_
  · rw [show ds' = ds from e] at hd ha ⊢
    refine (hs i d p acc hd).imp fun ρ2 μ2 n => ⟨n.1, true, eb_yes, fun _ => n.2.imp fun e' he' => ?_, fun z => nomatch z⟩
    rw [ha, show e' = f d from he', List.take_add_one, hd, List.map_append]
    rfl
  · rintro d ⟨ds', es, e, rfl, _, e2⟩
    rw [show ds' = ds from e, List.take_length] at e2
    rw [e2]
    rfl
/-- those that pass the test -/
theorem ev_filt {wi : TI} {ds : List D} {vs : List Nat} {f : D → D} {b : D → Bool} (h : IvP W wi ρ μ (Is ds)) (hw : Wp g vs) (hz : ds.length < 1000)
    (hs : ∀ (i : Nat) (d : D) p acc, ds[i]? = some d → GvP (W.ext p) g (wipeR ρ vs) (μ ++ [.ml acc]) d fun ρ2 μ2 => μ2 = μ ++ [.ml acc] ∧ EvB (W.ext p) tt ρ2 μ2 (Is (b d)) ∧ (b d = true → EvP (W.ext p) te ρ2 μ2 (Is (f d)))) :
    EvP W (tLc wi g tt te vs) ρ μ (Is (.lst ((ds.filter b).map f))) := by
  refine (ev_lcN (fun ds' i acc => acc = ((ds'.take i).filter b).map f) h hw (fun ds' e => by rw [show ds' = ds from e]; exact hz) (fun ds' e => rfl) fun ds' i d p acc e hd ha => ?_).imp ?_
  · rw [show ds' = ds from e] at hd ha ⊢
    refine (hs i d p acc hd).imp fun ρ2 μ2 n => ⟨n.1, b d, n.2.1, fun hb => (n.2.2 hb).imp fun e' he' => ?_, fun hb => ?_⟩
    · rw [ha, show e' = f d from he', List.take_add_one, hd, List.filter_append, List.map_append]
      show _ = _ ++ List.map f (List.filter b [d])
      rw [List.filter_cons, if_pos hb]
      rfl
    · rw [ha, List.take_add_one, hd, List.filter_append, List.map_append]
      show _ = _ ++ List.map f (List.filter b [d])
      rw [List.filter_cons, if_neg (by rw [hb]; decide)]
      show _ = _ ++ []
      rw [List.append_nil]
  · rintro d ⟨ds', es, e, rfl, _, e2⟩
    rw [show ds' = ds from e, List.take_length] at e2
    rw [e2]
    rfl

/-! ### built-in calls -/
def CbD (W : Wd) (r : List V → Hp → VK → Prop) (ds : List D) (P : D → Prop) : Prop :=
  ∀ H μ, Sto W H μ → ∀ vs, RpL W.CN W.U H ds vs → ∀ Q : VK, (∀ v H' d, Same H H' → Rp W.CN W.U H' d v → P d → Q v H') → r vs H Q
theorem ev_cb {r : List V → Hp → VK → Prop} {ta : TA} {PA : List D → Prop} (ha : EvA W ta ρ μ PA) (h : ∀ ds, PA ds → CbD W r ds P) : EvP W (tCB r ta) ρ μ P := fun σ H s Q q =>
  ha σ H s _ fun vs H1 ds e1 s1 r1 p1 => h ds p1 H1 μ s1.sto vs r1 Q fun v H' d e r p => q v H' d (e1.trans (Ch.of e)) (s1.same e) r p
theorem ev_cb1 {r : List V → Hp → VK → Prop} {d : D} (ha : EvP W te ρ μ (Is d)) (h : CbD W r [d] P) : EvP W (tCB r (tCons te tNil)) ρ μ P := ev_cb (ea_cons ha ea_nil) fun ds e => by
  rw [show ds = [d] from e]
  exact h
theorem ev_cb2 {r : List V → Hp → VK → Prop} {d e : D} (ha : EvP W ta ρ μ (Is d)) (hb : EvP W tb ρ μ (Is e)) (h : CbD W r [d, e] P) : EvP W (tCB r (tCons ta (tCons tb tNil))) ρ μ P := ev_cb (ea_cons ha (ea_cons hb ea_nil)) fun ds e' => by
  rw [show ds = [d, e] from e']
  exact h
/-- the built-in type of a datum -/
def D.tyN : D → Option String
  | .non => some "NoneType"
  | .bl _ => some "bool"
  | .int _ => some "int"
  | .str _ => some "str"
  | .tup _ => some "tuple"
  | .lst _ => some "list"
  | .ah _ _ => some "dict"
  | .dt _ _ => some "dict"
  | _ => none
theorem tyX_of {K : PySem.W.Frag} {CN : Addr} {U : Addr → Prop} {d : D} {v : V} {n : String} (h : d.tyN = some n) (r : Rp CN U H d v) : TyX K H v (.type n) := by
  cases d with
  | non => cases h; rw [show v = _ from r]; exact .base .non
  | bl b => cases h; rw [show v = _ from r]; exact .base (.bl b)
  | int i => cases h; rw [show v = _ from r]; exact .base (.int i)
  | str z => cases h; rw [show v = _ from r]; exact .base (.str z)
  | tup ds => cases h; obtain ⟨a, xs, rfl, _, e, _⟩ := r; exact .base (.tup e)
  | lst ds => cases h; obtain ⟨a, xs, rfl, _, e, _⟩ := r; exact .base (.lst e)
  | net k w => cases h
  | ah m c => cases h; obtain ⟨a, kvs, rfl, _, e, _⟩ := r; exact .base (.dK e)
  | dt m c => cases h; obtain ⟨a, kvs, rfl, _, e, _⟩ := r; exact .base (.dT e)
  | ty n => cases h
  | cls n => cases h
/-- isinstance(x, T), T built in -/
theorem ev_isi {K : PySem.W.Frag} {x : D} {n m : String} {b : Bool} (ha : EvP W ta ρ μ (Is x)) (hb : EvP W tb ρ μ (Is (.ty m))) (hx : x.tyN = some n) (h : kitB n m = some b) : EvP W (tCB (rIsi K) (tCons ta (tCons tb tNil))) ρ μ (Is (.bl b)) :=
  ev_cb2 ha hb fun H μ s vs r Q q => by
    obtain ⟨v, r1, rfl, rv, rr⟩ := r
    obtain ⟨v2, r2, rfl, rv2, rr2⟩ := rr
    rw [show v2 = .ty m from rv2, show r2 = [] from rr2]
    exact ⟨v, .ty m, .type n, .type m, b, rfl, .ty m, tyX_of hx rv, kit_ty h, q _ H (.bl b) (Same.refl H) rfl rfl⟩
def D.isT : D → Bool
  | .tup _ => true
  | _ => false
def D.isS : D → Bool
  | .str _ => true
  | _ => false
def D.pl (x : D) : Prop := x.tyN.isSome = true
theorem ev_isT {K : PySem.W.Frag} {x : D} (ha : EvP W ta ρ μ (Is x)) (hx : x.pl := by first | exact rfl | assumption) : EvP W (tCB (rIsi K) (tCons ta (tCons (tC (.ty "tuple")) tNil))) ρ μ (Is (.bl x.isT)) := by
  have hb : EvP W (tC (.ty "tuple")) ρ μ (Is (.ty "tuple")) := fun σ H s Q q => q _ H (.ty "tuple") (Ch.refl _ _) s rfl rfl
  cases x with
  | non => exact ev_isi (b := false) ha hb rfl (by decide +kernel)
  | bl b => exact ev_isi (b := false) ha hb rfl (by decide +kernel)
  | int i => exact ev_isi (b := false) ha hb rfl (by decide +kernel)
  | str z => exact ev_isi (b := false) ha hb rfl (by decide +kernel)
  | tup ds => exact ev_isi (b := true) ha hb rfl (by decide +kernel)
  | lst ds => exact ev_isi (b := false) ha hb rfl (by decide +kernel)
  | net k w => cases hx
  | ah m c => exact ev_isi (b := false) ha hb rfl (by decide +kernel)
  | dt m c => exact ev_isi (b := false) ha hb rfl (by decide +kernel)
  | ty n => cases hx
  | cls n => cases hx
theorem ev_isS {K : PySem.W.Frag} {x : D} (ha : EvP W ta ρ μ (Is x)) (hx : x.pl := by first | exact rfl | assumption) : EvP W (tCB (rIsi K) (tCons ta (tCons (tC (.ty "str")) tNil))) ρ μ (Is (.bl x.isS)) := by
  have hb : EvP W (tC (.ty "str")) ρ μ (Is (.ty "str")) := fun σ H s Q q => q _ H (.ty "str") (Ch.refl _ _) s rfl rfl
  cases x with
  | non => exact ev_isi (b := false) ha hb rfl (by decide +kernel)
  | bl b => exact ev_isi (b := false) ha hb rfl (by decide +kernel)
  | int i => exact ev_isi (b := false) ha hb rfl (by decide +kernel)
  | str z => exact ev_isi (b := true) ha hb rfl (by decide +kernel)
  | tup ds => exact ev_isi (b := false) ha hb rfl (by decide +kernel)
  | lst ds => exact ev_isi (b := false) ha hb rfl (by decide +kernel)
  | net k w => cases hx
  | ah m c => exact ev_isi (b := false) ha hb rfl (by decide +kernel)
  | dt m c => exact ev_isi (b := false) ha hb rfl (by decide +kernel)
  | ty n => cases hx
  | cls n => cases hx
theorem ev_ty {n : String} : EvP W (tC (.ty n)) ρ μ (Is (.ty n)) := fun σ H s Q q => q _ H (.ty n) (Ch.refl _ _) s rfl rfl
theorem ev_cls {C : Addr} : EvP W (tC (.ref C)) ρ μ (Is (.cls C)) := fun σ H s Q q => q _ H (.cls C) (Ch.refl _ _) s rfl rfl
/-- len -/
abbrev rLenS (K : PySem.W.Frag) : List V → Hp → VK → Prop := fun xs H Q => ∃ p ys, xs = [.ref p] ∧ (SqL K H p ys ∨ SqT K H p ys) ∧ Q (.int ys.length) H
theorem ev_lenT {K : PySem.W.Frag} {ds : List D} (ha : EvP W ta ρ μ (Is (.tup ds))) : EvP W (tCB (rLenS K) (tCons ta tNil)) ρ μ (Is (.int ds.length)) := ev_cb1 ha fun H μ s vs r Q q => by
  obtain ⟨v, r1, rfl, rv, rr⟩ := r
  obtain ⟨a, xs, rfl, n, e, rl⟩ := rv
  rw [show r1 = [] from rr]
  exact ⟨a, xs, rfl, .inr (SqT.of e), q _ H (.int ds.length) (Same.refl H) (by rw [rl.length]; rfl) rfl⟩
theorem ev_lenL {K : PySem.W.Frag} {ds : List D} (ha : EvP W ta ρ μ (Is (.lst ds))) : EvP W (tCB (rLenS K) (tCons ta tNil)) ρ μ (Is (.int ds.length)) := ev_cb1 ha fun H μ s vs r Q q => by
  obtain ⟨v, r1, rfl, rv, rr⟩ := r
  obtain ⟨a, xs, rfl, n, e, rl⟩ := rv
  rw [show r1 = [] from rr]
  exact ⟨a, xs, rfl, .inl (SqL.of e), q _ H (.int ds.length) (Same.refl H) (by rw [rl.length]; rfl) rfl⟩
/-- all, sum -/
theorem ev_all {K : PySem.W.Frag} {bs : List Bool} (ha : EvP W ta ρ μ (Is (.lst (bs.map D.bl)))) : EvP W (tCB (rAll K) (tCons ta tNil)) ρ μ (Is (.bl (bs.all id))) := ev_cb1 ha fun H μ s vs r Q q => by
  obtain ⟨v, r1, rfl, rv, rr⟩ := r
  obtain ⟨a, xs, rfl, n, e, rl⟩ := rv
  rw [show r1 = [] from rr]
  rw [rl.bls] at e
  exact ⟨a, bs, rfl, SqL.of e, q _ H (.bl (bs.all id)) (Same.refl H) rfl rfl⟩
theorem ev_allM {K : PySem.W.Frag} {ds : List D} {f : D → Bool} (ha : EvP W ta ρ μ (Is (.lst (ds.map fun d => D.bl (f d))))) : EvP W (tCB (rAll K) (tCons ta tNil)) ρ μ (Is (.bl (ds.all f))) := by
  have e : (ds.map fun d => D.bl (f d)) = (ds.map f).map D.bl := by rw [List.map_map]; rfl
  rw [e] at ha
  refine (ev_all ha).to ?_
  rw [List.all_map]
  rfl
theorem ev_sum {K : PySem.W.Frag} {ns : List Int} (ha : EvP W ta ρ μ (Is (.lst (ns.map D.int)))) : EvP W (tCB (rSum K) (tCons ta tNil)) ρ μ (Is (.int ns.sum)) := ev_cb1 ha fun H μ s vs r Q q => by
  obtain ⟨v, r1, rfl, rv, rr⟩ := r
  obtain ⟨a, xs, rfl, n, e, rl⟩ := rv
  rw [show r1 = [] from rr]
  rw [rl.ints] at e
  exact ⟨a, ns, rfl, SqL.of e, q _ H (.int ns.sum) (Same.refl H) rfl rfl⟩
/-- list(x), tuple(x) -/
abbrev rListS (K : PySem.W.Frag) : List V → Hp → VK → Prop := fun xs H Q => ∃ p ys, xs = [.ref p] ∧ (SqL K H p ys ∨ SqT K H p ys) ∧ ∀ l, H l = none → Q (.ref l) (upd H l (.lst ys))
theorem cb_list {K : PySem.W.Frag} {x : D} {ds : List D} (hx : x = .lst ds ∨ x = .tup ds) : CbD W (rListS K) [x] (Is (.lst ds)) := fun H μ s vs r Q q => by
  obtain ⟨v, r1, rfl, rv, rr⟩ := r
  rw [show r1 = [] from rr]
  rcases hx with rfl | rfl
  · obtain ⟨a, xs, rfl, n, e, rl⟩ := rv
    exact ⟨a, xs, rfl, .inl (SqL.of e), fun l hl => q _ _ (.lst ds) (same_new hl) ⟨l, xs, rfl, Stt.notU s hl, upd_same, rl.kept (Kept.of (same_new hl))⟩ rfl⟩
  · obtain ⟨a, xs, rfl, n, e, rl⟩ := rv
    exact ⟨a, xs, rfl, .inr (SqT.of e), fun l hl => q _ _ (.lst ds) (same_new hl) ⟨l, xs, rfl, Stt.notU s hl, upd_same, rl.kept (Kept.of (same_new hl))⟩ rfl⟩
abbrev rTupS (K : PySem.W.Frag) : List V → Hp → VK → Prop := fun xs H Q => ∃ p ys, xs = [.ref p] ∧ ((SqL K H p ys ∧ ∀ l, H l = none → Q (.ref l) (upd H l (.tup ys))) ∨ (SqT K H p ys ∧ Q (.ref p) H))
theorem cb_tup {K : PySem.W.Frag} {ds : List D} : CbD W (rTupS K) [.lst ds] (Is (.tup ds)) := fun H μ s vs r Q q => by
  obtain ⟨v, r1, rfl, rv, rr⟩ := r
  rw [show r1 = [] from rr]
  obtain ⟨a, xs, rfl, n, e, rl⟩ := rv
  exact ⟨a, xs, rfl, .inl ⟨SqL.of e, fun l hl => q _ _ (.tup ds) (same_new hl) ⟨l, xs, rfl, Stt.notU s hl, upd_same, rl.kept (Kept.of (same_new hl))⟩ rfl⟩⟩

/-! ### slices, sums of tuples and lists -/
theorem sIx_le' (n d : Nat) (hd : d ≤ n) (o : Option Int) : HT.sIx n d o ≤ n := HT.sIx_le n d hd o
def cutD (ds : List D) (lo hi : Option Int) : List D := (ds.drop (HT.sIx ds.length 0 lo)).take (HT.sIx ds.length ds.length hi - HT.sIx ds.length 0 lo)
def EvO (W : Wd) (to : TO) (ρ : List Sl) (μ : List Cell) (o : Option Int) : Prop :=
  ∀ σ H, Stt W σ H ρ μ → ∀ Q : Option Int → Hp → Prop, (∀ H', Ch W.A H H' → Stt W σ H' ρ μ → Q o H') → to σ H Q
theorem eo_none : EvO W tNoPart ρ μ none := fun σ H s Q q => q H (Ch.refl _ _) s
theorem eo_some {i : Int} (h : EvP W te ρ μ (Is (.int i))) : EvO W (tPart te) ρ μ (some i) := fun σ H s Q q => h σ H s _ fun v H' d e s' r p => by
  rw [show d = .int i from p] at r
  exact ⟨i, r, q H' e s'⟩
theorem cutD_whole {ds : List D} {lo hi : Option Int} (h : HT.sIx ds.length 0 lo = 0 ∧ HT.sIx ds.length ds.length hi = ds.length) : cutD ds lo hi = ds := by
  unfold cutD
  rw [h.1, h.2, List.drop_zero, Nat.sub_zero, List.take_length]
theorem ev_slT {K : PySem.W.Frag} {ds : List D} {tlo thi : TO} {lo hi : Option Int} (ha : EvP W ta ρ μ (Is (.tup ds))) (h1 : EvO W tlo ρ μ lo) (h2 : EvO W thi ρ μ hi) : EvP W (tSl (rSlA K) ta tlo thi) ρ μ (Is (.tup (cutD ds lo hi))) := fun σ H s Q q =>
  ha σ H s _ fun v H1 d e1 s1 r1 p1 => h1 σ H1 s1 _ fun H2 e2 s2 => h2 σ H2 s2 _ fun H3 e3 s3 => by
    rw [show d = .tup ds from p1] at r1
    have r3 := (r1.kept (s1.kp e2)).kept (s2.kp e3)
    obtain ⟨a, xs, rfl, n, e, rl⟩ := r3
    have c3 := e1.trans (e2.trans e3)
    refine ⟨a, xs, rfl, SqT.of e, fun w => ?_, fun w p hp => ?_⟩
    · rw [rl.length] at w
      refine q _ H3 (.tup (cutD ds lo hi)) c3 s3 ?_ rfl
      rw [cutD_whole w]
      exact ⟨a, xs, rfl, n, e, rl⟩
    · refine q _ _ (.tup (cutD ds lo hi)) (c3.trans (Ch.of (same_new hp))) (s3.same (same_new hp)) ⟨p, _, rfl, Stt.notU s3.sto hp, upd_same, ?_⟩ rfl
      unfold cutD cutV
      rw [rl.length]
      exact ((rl.drop _).take _).kept (Kept.of (same_new hp))
theorem od_catT {K : PySem.W.Frag} {ds es : List D} (hl : ds.length + es.length ≤ 1000) : OpD W (rCatA K) (.tup ds) (.tup es) (Is (.tup (ds ++ es))) := fun H μ s vx vy r1 r2 Q q => by
  obtain ⟨a, xs, rfl, n, e, rl⟩ := r1
  obtain ⟨b, ys, rfl, n2, e2, rl2⟩ := r2
  refine ⟨a, b, xs, ys, rfl, rfl, SqT.of e, SqT.of e2, by rw [rl.length, rl2.length]; exact Nat.le_of_lt (small1000 hl), fun z => ?_, fun z1 z2 => ?_, fun z1 z2 p hp => ?_⟩
  · refine q _ H (.tup (ds ++ es)) (Same.refl H) ?_ rfl
    have : ds = [] := List.length_eq_zero_iff.mp (by rw [← rl.length, z]; rfl)
    subst this
    exact ⟨b, ys, rfl, n2, e2, rl2⟩
  · refine q _ H (.tup (ds ++ es)) (Same.refl H) ?_ rfl
    have : es = [] := List.length_eq_zero_iff.mp (by rw [← rl2.length, z2]; rfl)
    subst this
    rw [List.append_nil]
    exact ⟨a, xs, rfl, n, e, rl⟩
  · exact q _ _ (.tup (ds ++ es)) (same_new hp) ⟨p, _, rfl, Stt.notU s hp, upd_same, (rl.append rl2).kept (Kept.of (same_new hp))⟩ rfl
theorem od_catL {ds es : List D} (hl : ds.length + es.length ≤ 1000) : OpD W rCat (.lst ds) (.lst es) (Is (.lst (ds ++ es))) := fun H μ s vx vy r1 r2 Q q => by
  obtain ⟨a, xs, rfl, n, e, rl⟩ := r1
  obtain ⟨b, ys, rfl, n2, e2, rl2⟩ := r2
  exact ⟨a, b, xs, ys, rfl, rfl, e, e2, by rw [rl.length, rl2.length]; exact Nat.le_of_lt (small1000 hl), fun p hp => q _ _ (.lst (ds ++ es)) (same_new hp) ⟨p, _, rfl, Stt.notU s hp, upd_same, (rl.append rl2).kept (Kept.of (same_new hp))⟩ rfl⟩
theorem ev_revL {K : PySem.W.Frag} {ds : List D} (ha : EvP W ta ρ μ (Is (.lst ds))) : EvP W (tRevL K ta) ρ μ (Is (.lst ds.reverse)) := fun σ H s Q q =>
  ha σ H s _ fun v H1 d e1 s1 r1 p1 => by
    rw [show d = .lst ds from p1] at r1
    obtain ⟨a, xs, rfl, n, e, rl⟩ := r1
    exact ⟨a, xs, rfl, SqL.of e, fun p hp => q _ _ (.lst ds.reverse) (e1.trans (Ch.of (same_new hp))) (s1.same (same_new hp)) ⟨p, _, rfl, Stt.notU s1.sto hp, upd_same, rl.reverse.kept (Kept.of (same_new hp))⟩ rfl⟩

/-! ### x in a list or tuple of scalars -/
def D.eqS : D → D → Bool
  | .non, .non => true
  | .bl a, .bl b => a == b
  | .bl a, .int b => (if a then 1 else 0) == b
  | .int a, .bl b => a == (if b then 1 else 0)
  | .int a, .int b => a == b
  | .str a, .str b => a == b
  | _, _ => false
def D.flat : D → Bool
  | .non => true
  | .bl _ => true
  | .int _ => true
  | .str _ => true
  | _ => false
theorem flat_rp {CN : Addr} {U : Addr → Prop} {d : D} {v : V} (h : d.flat = true) (r : Rp CN U H d v) : flatV v = true := by
  cases d with
  | non => rw [show v = _ from r]; rfl
  | bl b => rw [show v = _ from r]; rfl
  | int i => rw [show v = _ from r]; rfl
  | str z => rw [show v = _ from r]; rfl
  | _ => cases h
theorem eqS_rp {CN : Addr} {U : Addr → Prop} {d e : D} {v w : V} (hd : d.flat = true) (he : e.flat = true) (r : Rp CN U H d v) (r' : Rp CN U H e w) : eqV v w = d.eqS e := by
  cases d <;> cases e <;> first | (rw [show v = _ from r, show w = _ from r']; rfl) | (cases he; done) | (cases hd; done)
theorem inV_rp {CN : Addr} {U : Addr → Prop} {x : D} {v : V} (hx : x.flat = true) (rx : Rp CN U H x v) : ∀ {ds : List D} {vs : List V}, ds.all D.flat = true → RpL CN U H ds vs → vs.all flatV = true ∧ inV v vs = ds.any fun d => d.eqS x
  | [], vs, _, r => by
    rw [show vs = [] from r]
    exact ⟨rfl, rfl⟩
  | d :: ds, vs, h, r => by
    obtain ⟨w, r1, rfl, rw1, rr⟩ := r
    rw [List.all_cons, Bool.and_eq_true] at h
    obtain ⟨q1, q2⟩ := inV_rp hx rx h.2 rr
    refine ⟨by rw [List.all_cons, flat_rp h.1 rw1, q1]; rfl, ?_⟩
    show (eqV w v || inV v r1) = _
    rw [q2, eqS_rp h.1 hx rw1 rx]
    rfl
theorem od_in {K : PySem.W.Frag} {neg : Bool} {x y : D} {ds : List D} (hy : y = .tup ds ∨ y = .lst ds) (hx : x.flat = true) (h : ds.all D.flat = true) : OpD W (rIn K neg) x y (Is (.bl (if neg then !(ds.any fun d => d.eqS x) else ds.any fun d => d.eqS x))) := fun H μ s vx vy r1 r2 Q q => by
  rcases hy with rfl | rfl
  · obtain ⟨a, xs, rfl, n, e, rl⟩ := r2
    obtain ⟨q1, q2⟩ := inV_rp hx r1 h rl
    exact ⟨a, xs, rfl, .inr (SqT.of e), flat_rp hx r1, q1, q _ H (.bl _) (Same.refl H) (by rw [q2]; rfl) rfl⟩
  · obtain ⟨a, xs, rfl, n, e, rl⟩ := r2
    obtain ⟨q1, q2⟩ := inV_rp hx r1 h rl
    exact ⟨a, xs, rfl, .inl (SqL.of e), flat_rp hx r1, q1, q _ H (.bl _) (Same.refl H) (by rw [q2]; rfl) rfl⟩
end
end RN
end

section
set_option Elab.async false
set_option linter.all false
set_option maxRecDepth 100000
set_option maxHeartbeats 2000000
/-! RN_Core4: promises over data, own calls, the net's attributes. -/
namespace RN
open PySem PySem.Spec L2

/-! ### promises -/
/-- a def that changes nothing: data in, data out; z: what the arguments say -/
def spN {α : Type} (CN : Addr) (enc : α → List D) (ok : α → Prop) (post : α → D → Prop) : Sp := fun vs H Q _ => ∃ (U : Addr → Prop) (z : α), (∀ a, U a → H a ≠ none) ∧ RpL CN U H (enc z) vs ∧ ok z ∧
  ∀ v H' d, Same H H' → Rp CN U H' d v → post z d → Q v H'
abbrev spG {α : Type} (CN : Addr) (enc : α → List D) (ok : α → Prop) (res : α → D) : Sp := spN CN enc ok fun z d => d = res z
/-- a def that draws from the urn, its first argument -/
def spU {α : Type} (CN : Addr) (enc : α → List D) (ok : α → Prop) (post : α → D → Prop) : Sp := fun vs H Q _ => ∃ (U : Addr → Prop) (u : Addr) (vs' : List V) (z : α), vs = .ref u :: vs' ∧ U u ∧ (∀ a, U a → H a ≠ none) ∧
  (∃ x y z : Int, H u = some (.lst [.int x, .int y, .int z])) ∧ RpL CN U H (enc z) vs' ∧ ok z ∧
  ∀ v H' d, Ch [u] H H' → (∃ x y z : Int, H' u = some (.lst [.int x, .int y, .int z])) → Rp CN U H' d v → post z d → Q v H'
/-- a def of the text as callers want it -/
def Cal (P : Program) (w : World) (K : PySem.W.Frag) (mg : Str → Option Value) (base : Heap) (CX : CXT) (k : Nat) (x : Str) (ps : List Str) (sp : Sp) : Prop :=
  ∃ (f : Addr) (fd : FuncData), mg x = some (.ref f) ∧ PySem.W.keepIn K (.ref f) = true ∧ Binds K fd ps [] ∧ FnOk P w K mg base CX k f fd ps sp
def args0 (ρ : List D) (N : List Str) : List Sl := ρ.map .d ++ List.replicate (N.length - ρ.length) .no
section
variable {P : Program} {w : World} {K : PySem.W.Frag} {mg : Str → Option Value} {base : Heap} {CN : Addr} {x qual : Str} {params : Arguments} {body : List Stmt} {scope : Scope} {f : Addr} {fd : FuncData} {N ps : List Str} {k : Nat}
theorem start_stt {U : Addr → Prop} {H : Hp} {ds : List D} {vs : List V} (hU : ∀ a, U a → H a ≠ none) (r : RpL CN U H ds vs) (hl : ds.length ≤ N.length) : Stt ⟨CN, U, U, [], 0⟩ (L2.start N vs) H (args0 ds N) [] := by
  refine ⟨⟨fun j c h => by simp at h, hU, fun a h => h, fun a h => by simp at h, List.nodup_nil, rfl, Nat.le_refl _⟩, fun i x h => ?_, ?_⟩
  · unfold args0 at h
    by_cases hi : i < ds.length
    · rw [List.getElem?_append_left (by rw [List.length_map]; exact hi), List.getElem?_map, List.getElem?_eq_getElem hi] at h
      cases h
      obtain ⟨v, q1, q2⟩ := r.get (List.getElem?_eq_getElem hi)
      refine ⟨v, ?_, q2⟩
      unfold L2.start
      rw [List.getElem?_append_left (by rw [List.length_map, r.length]; exact hi), List.getElem?_map, q1]
      rfl
    · rw [List.getElem?_append_right (by rw [List.length_map]; omega), List.getElem?_replicate] at h
      split at h
      · cases h
        trivial
      · cases h
  · unfold L2.start args0
    rw [List.length_append, List.length_append, List.length_map, List.length_map, List.length_replicate, List.length_replicate, r.length]
theorem fn_N {α : Type} {CX : CXT} (enc : α → List D) (ok : α → Prop) (post : α → D → Prop) (F : FunD K x qual params body scope [] [] f fd) (S : FnScope N ps scope) (hlen : ∀ z, (enc z).length = ps.length)
    (hbody : ∀ (cdv : Value) (A : Around) (outer : List Env) (s : Shared) (H : Hp) (E : XK), Room k (A.deeper (PyProof.Rows.envOfC qual scope s.heap.objs.size f cdv)) → ∀ z, ok z →
      ∃ t, PSs (cxOf CX P w K mg base N qual scope f cdv A outer s H E).nox body t ∧ ∀ U, SvP ⟨CN, U, U, [], 0⟩ t (args0 (enc z) N) [] (fun _ _ => post z .non) (fun d _ => post z d)) :
    FnOk P w K mg base CX (k + 1) f fd ps (spN CN enc ok post) := by
  refine F.ok S (fun vs H Q E h => ?_) fun cdv A outer s H vs Q E hr h => ?_
  · obtain ⟨U, z, _, r, p, _⟩ := h
    rw [r.length, hlen z]
  · obtain ⟨U, z, hU, r, p, q⟩ := h
    obtain ⟨t, h1, h2⟩ := hbody cdv A outer s H E hr z p
    have hl : (enc z).length ≤ N.length := by
      have := congrArg List.length S.pre
      rw [List.length_take] at this
      have := hlen z
      omega
    refine ⟨t, h1.nox, h2 U _ H _ (start_stt hU r hl) (fun σ' H' ρ' μ' e s' n => q _ H' .non (fun a o z => e a o (by simp) z) rfl n) fun v H' d μ' e s' r' n => q v H' d (fun a o z => e a o (by simp) z) r' n⟩
def argsU (ρ : List D) (N : List Str) : List Sl := .c 0 :: (ρ.map .d ++ List.replicate (N.length - 1 - ρ.length) .no)
theorem fn_urn {α : Type} {CX : CXT} (enc : α → List D) (ok : α → Prop) (post : α → D → Prop) (F : FunD K x qual params body scope [] [] f fd) (S : FnScope N ps scope) (hlen : ∀ z, (enc z).length + 1 = ps.length)
    (hbody : ∀ (cdv : Value) (A : Around) (outer : List Env) (s : Shared) (H : Hp) (E : XK), Room k (A.deeper (PyProof.Rows.envOfC qual scope s.heap.objs.size f cdv)) → ∀ z, ok z →
      ∃ t, PSs (cxOf CX P w K mg base N qual scope f cdv A outer s H E).nox body t ∧ ∀ U u, SvP ⟨CN, U, U, [u], 1⟩ t (argsU (enc z) N) [.urn] (fun _ μ' => False) (fun d μ' => μ' = [.urn] ∧ post z d)) :
    FnOk P w K mg base CX (k + 1) f fd ps (spU CN enc ok post) := by
  refine F.ok S (fun vs H Q E h => ?_) fun cdv A outer s H vs Q E hr h => ?_
  · obtain ⟨U, u, vs', z, rfl, _, _, _, r, p, _⟩ := h
    rw [List.length_cons, r.length, hlen z]
  · obtain ⟨U, u, vs', z, rfl, hUu, hU, hu, r, p, q⟩ := h
    obtain ⟨t, h1, h2⟩ := hbody cdv A outer s H E hr z p
    have hl : (enc z).length + 1 ≤ N.length := by
      have := congrArg List.length S.pre
      rw [List.length_take] at this
      have := hlen z
      omega
    refine ⟨t, h1.nox, h2 U u _ H _ ⟨⟨fun j c h => ?_, hU, fun a h => h, fun a h => ?_, by simp, rfl, Nat.le_refl _⟩, fun i x h => ?_, ?_⟩ (fun σ' H' ρ' μ' e s' n => n.elim) fun v H' d μ' e s' r' n => ?_⟩
    · cases j with
      | zero => cases h; exact ⟨u, rfl, hu⟩
      | succ j => cases h
    · rw [List.mem_singleton.mp h]
      exact hUu
    · unfold argsU at h
      cases i with
      | zero =>
        cases h
        exact ⟨u, rfl, by unfold L2.start; rfl⟩
      | succ i =>
        have h' : (List.map Sl.d (enc z) ++ List.replicate (N.length - 1 - (enc z).length) Sl.no)[i]? = some x := h
        by_cases hi : i < (enc z).length
        · rw [List.getElem?_append_left (by rw [List.length_map]; exact hi), List.getElem?_map, List.getElem?_eq_getElem hi] at h'
          cases h'
          obtain ⟨v, q1, q2⟩ := r.get (List.getElem?_eq_getElem hi)
          refine ⟨v, ?_, q2⟩
          unfold L2.start
          rw [List.getElem?_append_left (by rw [List.length_map, List.length_cons, r.length]; omega), List.getElem?_map, List.getElem?_cons_succ, q1]
          rfl
        · rw [List.getElem?_append_right (by rw [List.length_map]; omega), List.getElem?_replicate] at h'
          split at h'
          · cases h'
            trivial
          · cases h'
    · unfold L2.start argsU
      simp only [List.length_append, List.length_cons, List.length_map, List.length_replicate, r.length]
      omega
    · obtain ⟨rfl, n⟩ := n
      obtain ⟨a, ha, c⟩ := s'.cell 0 .urn rfl
      cases ha
      exact q v H' d e c r' n
theorem cal_mk {CX : CXT} {sp : Sp} (g : mg x = some (.ref f)) (F : FunD K x x params body scope [] [] f fd)
    (hb : ∀ (kV doc pm : Value) (an : Option Addr) (cdv ct : Value) (us : List Value), us.length = ps.length → bindArgs (PySem.W.fnOf x x params body scope .none kV doc pm an cdv ct) ⟨us, []⟩ = pure (ps.zip us))
    (h : FnOk P w K mg base CX k f fd ps sp) : Cal P w K mg base CX k x ps sp := ⟨f, fd, g, F.kp, F.bindsN hb, h⟩
end
section
variable {X : Cx} {CX : CXT} {k : Nat} {x : Str} {ps : List Str} {sp : Sp} {p pos : Pos} {e : Expr} {es : List Expr} {t : TA} {E : XK}
/-- a call of a def of the text -/
theorem pe_own (C : Cal X.prog X.w X.K X.mg X.base CX k x ps sp) (hr : Room k X.A) (hg : Gl X x) (hx : Passes CX X E) (ha : PA X (e :: es) t) (hdb : (x == ("__debug__" : Str)) = false := by decide)
    (he : starEach (e :: es) X.env = (false, eval e X.env) :: starEach es X.env := by rfl) (hpl : (backTo pos (starEach es X.env)).any (·.1) = false := by rfl) : PE X (.Call (.Name x p) (e :: es) [] pos) (tCall sp [] E t) := by
  obtain ⟨f, fd, h1, h2, h3, h4⟩ := C
  exact pe_call h4 hr hg h1 h2 h3 .nil hx ha hdb he hpl
end
section
variable {W : Wd} {σ : L2.St} {H H' : Hp} {ρ : List Sl} {μ : List Cell} {te ta tb tc tl : TE} {P : D → Prop} {K : PySem.W.Frag} {E : XK}
theorem ev_callN {α : Type} {enc : α → List D} {ok : α → Prop} {post : α → D → Prop} {ta : TA} (z : α) (ha : EvA W ta ρ μ (Is (enc z))) (h1 : ok z) (h2 : ∀ d, post z d → P d) : EvP W (tCall (spN W.CN enc ok post) [] E ta) ρ μ P := fun σ H s Q q =>
  ha σ H s _ fun vs H1 ds e1 s1 r1 p1 => by
    rw [show ds = enc z from p1] at r1
    rw [List.append_nil]
    exact ⟨W.U, z, s1.sto.uok, r1, h1, fun v H' d e r p => q v H' d (e1.trans (Ch.of e)) (s1.same e) r (h2 d p)⟩
theorem ev_callG {α : Type} {enc : α → List D} {ok : α → Prop} {res : α → D} {ta : TA} (z : α) (ha : EvA W ta ρ μ (Is (enc z))) (h1 : ok z) : EvP W (tCall (spG W.CN enc ok res) [] E ta) ρ μ (Is (res z)) := ev_callN z ha h1 fun d e => e
theorem ev_callU {α : Type} {enc : α → List D} {ok : α → Prop} {post : α → D → Prop} {ta : TA} {i j : Nat} (z : α) (hr : ρ[i]? = some (.c j)) (hm : μ[j]? = some .urn) (ha : EvA W ta ρ μ (Is (enc z))) (h1 : ok z) (h2 : ∀ d, post z d → P d) :
    EvP W (tCall (spU W.CN enc ok post) [] E (tCons (tVar i) ta)) ρ μ P := fun σ H s Q q => by
  obtain ⟨a, ha', hσ⟩ := s.sl i _ hr
  refine ⟨.ref a, hσ, ha σ H s _ fun vs H1 ds e1 s1 r1 p1 => ?_⟩
  rw [show ds = enc z from p1] at r1
  show spU W.CN enc ok post ((V.ref a :: vs) ++ []) H1 Q E
  rw [List.append_nil]
  obtain ⟨a', ha2, hu⟩ := s1.sto.cell j _ hm
  rw [ha'] at ha2
  cases ha2
  have hA : a ∈ W.A := List.mem_of_getElem? ha'
  refine ⟨W.U, a, vs, z, rfl, s.sto.sub a hA, s1.sto.uok, hu, r1, h1, fun v H' d e hu' r p => ?_⟩
  have kp : Kept W.U H1 H' := fun b o nb z => e b o (fun y => nb (by rw [List.mem_singleton.mp y]; exact s.sto.sub a hA)) z
  have e' : Ch W.A H1 H' := e.sub fun b hb => by rw [List.mem_singleton.mp hb]; exact hA
  refine q v H' d (e1.trans e') (s1.kept kp ⟨fun l c hc => ?_, fun b hb z => ?_, s.sto.vsub, s.sto.sub, s.sto.nd, s.sto.len, s.sto.n0⟩) r (h2 d p)
  · by_cases el : l = j
    · subst el
      rw [hm] at hc
      cases hc
      exact ⟨a, ha', hu'⟩
    · obtain ⟨b, hb, cb⟩ := s1.sto.cell l c hc
      exact ⟨b, hb, cb.stay kp fun o z => e b o (fun y => el (nd_ixA s.sto.nd hb (by rw [List.mem_singleton.mp y]; exact ha'))) z⟩
  · by_cases eb : b = a
    · obtain ⟨_, _, _, hz⟩ := hu'
      rw [eb, hz] at z
      cases z
    · cases q : H1 b with
      | none => exact s1.sto.uok b hb q
      | some o =>
        rw [e b o (fun y => eb (List.mem_singleton.mp y)) q] at z
        cases z
/-! ### the net -/
theorem net_slt {CN : Addr} {U : Addr → Prop} {k : Int} {wd : D} {v : V} (r : Rp CN U H (.net k wd) v) : ∃ a dx vw, v = .ref a ∧ SlX.Slt H a CN dx [some (.int k), some vw] ∧ Rp CN U H wd vw := by
  obtain ⟨a, dx, vw, rfl, n1, n2, h1, h2, r⟩ := r
  exact ⟨a, dx, vw, rfl, .inr ⟨h1, h2⟩, r⟩
theorem ev_sl0 {f : Str} {p : Addr} {k : Int} {wd : D} (c : SlX.SCls K W.CN) (t : SlX.Slot1 K W.CN f p 0) (ha : EvP W ta ρ μ (Is (.net k wd))) : EvP W (SlX.tSl K ta f) ρ μ (Is (.int k)) := fun σ H s Q q =>
  ha σ H s _ fun v H1 d e1 s1 r1 p1 => by
    rw [show d = .net k wd from p1] at r1
    obtain ⟨a, dx, vw, rfl, hs, r⟩ := net_slt r1
    exact ⟨a, W.CN, dx, p, _, 0, _, rfl, hs, c, t, rfl, q _ H1 (.int k) e1 s1 rfl rfl⟩
theorem ev_sl1 {f : Str} {p : Addr} {k : Int} {wd : D} (c : SlX.SCls K W.CN) (t : SlX.Slot1 K W.CN f p 1) (ha : EvP W ta ρ μ (Is (.net k wd))) : EvP W (SlX.tSl K ta f) ρ μ (Is wd) := fun σ H s Q q =>
  ha σ H s _ fun v H1 d e1 s1 r1 p1 => by
    rw [show d = .net k wd from p1] at r1
    obtain ⟨a, dx, vw, rfl, hs, r⟩ := net_slt r1
    exact ⟨a, W.CN, dx, p, _, 1, _, rfl, hs, c, t, rfl, q _ H1 wd e1 s1 r rfl⟩
theorem ev_propG {α : Type} {enc : α → List D} {ok : α → Prop} {res : α → D} {k : Int} {wd : D} (z : α) (ha : EvP W ta ρ μ (Is (.net k wd))) (h : enc z = [.net k wd]) (h1 : ok z) : EvP W (SlX.tPropSl W.CN (spG W.CN enc ok res) E ta) ρ μ (Is (res z)) := fun σ H s Q q =>
  ha σ H s _ fun v H1 d' e1 s1 r1 p1 => by
    rw [show d' = .net k wd from p1] at r1
    obtain ⟨a, dx, vw, rfl, hs, r⟩ := net_slt r1
    exact ⟨a, dx, _, rfl, hs, W.U, z, s1.sto.uok, by rw [h]; exact ⟨_, [], rfl, r1, rfl⟩, h1, fun v H' d2 e r p => q v H' d2 (e1.trans (Ch.of e)) (s1.same e) r p⟩
/-- isinstance(x, Net), x a net -/
theorem ev_isiNet {k : Int} {wd : D} (c : SlX.SCls K W.CN) (i : SlX.SIsi K W.CN) (ki : PySem.W.kitOne K (.ref W.CN) (.ref W.CN) = some true) (ha : EvP W ta ρ μ (Is (.net k wd))) (hb : EvP W tb ρ μ (Is (.cls W.CN))) :
    EvP W (tCB (SlX.rIsiSl K (.ref W.CN)) (tCons ta (tCons tb tNil))) ρ μ (Is (.bl true)) := ev_cb2 ha hb fun H μ s vs r Q q => by
  obtain ⟨v, r1, rfl, rv, rr⟩ := r
  obtain ⟨v2, r2, rfl, rv2, rr2⟩ := rr
  obtain ⟨a, dx, vw, rfl, hs, r⟩ := net_slt rv
  rw [show v2 = .ref W.CN from rv2, show r2 = [] from rr2]
  exact ⟨a, W.CN, dx, _, .ref W.CN, true, rfl, rfl, fun w e => e, hs, c, i, ki, q _ H (.bl true) (Same.refl H) rfl rfl⟩
/-- isinstance(x, C), C a class of the text, x of a built-in type -/
theorem ev_isiC {x : D} {n : String} {C : Addr} {b : Bool} (ha : EvP W ta ρ μ (Is x)) (hb : EvP W tb ρ μ (Is (.cls C))) (hx : x.tyN = some n) (h : PySem.W.kitOne K (.type n) (.ref C) = some b) :
    EvP W (tCB (rIsi K) (tCons ta (tCons tb tNil))) ρ μ (Is (.bl b)) := ev_cb2 ha hb fun H μ s vs r Q q => by
  obtain ⟨v, r1, rfl, rv, rr⟩ := r
  obtain ⟨v2, r2, rfl, rv2, rr2⟩ := rr
  rw [show v2 = .ref C from rv2, show r2 = [] from rr2]
  exact ⟨v, .ref C, .type n, .ref C, b, rfl, .own C, tyX_of hx rv, h, q _ H (.bl b) (Same.refl H) rfl rfl⟩
end
end RN
end

section
set_option Elab.async false
set_option linter.all false
set_option maxRecDepth 100000
set_option maxHeartbeats 2000000
/-! RN_Core5: comprehensions of two clauses. -/
namespace RN
open PySem PySem.Spec L2
section
variable {W : Wd} {σ : L2.St} {H H' : Hp} {ρ : List Sl} {μ : List Cell} {te : TE} {tt : TT} {g g1 : TG}
/-- the last cell, a list, takes one item more -/
theorem Stt.push {p : Addr} {acc : List D} {e : D} {y : V} (s : Stt (W.ext p) σ H ρ (μ ++ [.ml acc])) (hl : μ.length = W.A.length) (r : Rp W.CN (W.ext p).U H e y) :
    ∃ xs, H p = some (.lst xs) ∧ xs.length = acc.length ∧ Sto (W.ext p) (upd H p (.lst (xs ++ [y]))) (μ ++ [.ml (acc ++ [e])]) ∧ Kept (W.ext p).U H (upd H p (.lst (xs ++ [y]))) ∧ Ch (W.ext p).A H (upd H p (.lst (xs ++ [y]))) := by
  have hA : (W.ext p).A[μ.length]? = some p := by
    show (W.A ++ [p])[μ.length]? = some p
    rw [hl, List.getElem?_append_right (Nat.le_refl _), Nat.sub_self]
    rfl
  have hx : (μ ++ [Cell.ml acc])[μ.length]? = some (.ml acc) := by rw [List.getElem?_append_right (Nat.le_refl _), Nat.sub_self]; rfl
  obtain ⟨a', ha', xs5, ex5, rx5⟩ := s.sto.cell μ.length _ hx
  rw [hA] at ha'
  cases ha'
  have rl5 : RpL W.CN (W.ext p).U H (acc ++ [e]) (xs5 ++ [y]) := RpL.append (es := [e]) rx5 ⟨y, [], rfl, r, rfl⟩
  have kp5 : Kept (W.ext p).U H (upd H p (.lst (xs5 ++ [y]))) := fun b o nb e => by
    rw [upd_ne fun z => nb (.inr z)]
    exact e
  obtain ⟨s6, k6⟩ := s.sto.put (o := .lst (xs5 ++ [y])) (c := .ml (acc ++ [e])) hA hx ⟨xs5 ++ [y], upd_same, rl5.kept kp5⟩
  have hset : (μ ++ [Cell.ml acc]).set μ.length (.ml (acc ++ [e])) = μ ++ [.ml (acc ++ [e])] := by
    rw [List.set_append_right _ _ (Nat.le_refl _), Nat.sub_self]
    rfl
  rw [hset] at s6
  refine ⟨xs5, ex5, rx5.length, s6, k6, fun b o nb q => ?_⟩
  rw [upd_ne fun z => nb (by rw [z]; exact List.mem_of_getElem? hA)]
  exact q
theorem ev_flat {wi wi1 : TI} {ds : List D} {es : D → List D} {f : D → D} {vs vs1 : List Nat} (h : IvP W wi ρ μ (Is ds)) (hw : Wp g vs) (hw1 : Wp g1 vs1) (hz : (ds.flatMap fun d => (es d).map f).length < 1000)
    (hs : ∀ (i : Nat) (d : D) p acc, ds[i]? = some d → GvP (W.ext p) g (wipeR ρ vs) (μ ++ [.ml acc]) d fun ρ2 μ2 => μ2 = μ ++ [.ml acc] ∧ IvP (W.ext p) wi1 ρ2 μ2 (Is (es d)) ∧
      ∀ (j : Nat) (e : D) ac1, (es d)[j]? = some e → GvP (W.ext p) g1 (wipeR ρ2 vs1) (μ ++ [.ml ac1]) e fun ρ3 μ3 => μ3 = μ ++ [.ml ac1] ∧ EvP (W.ext p) te ρ3 μ3 (Is (f e))) :
    EvP W (tLc2 wi g tYes wi1 g1 tYes te vs vs1) ρ μ (Is (.lst (ds.flatMap fun d => (es d).map f))) := fun σ H s Q q =>
  h σ H s _ fun J H1 ds' e1 s1 it p1 => fun Dl hD => by
    rw [show ds' = ds from p1] at it
    have f0 : Fr W Dl := s1.sto.fr hD
    have sm0 : Same H1 (upd H1 Dl (.lst [])) := same_new hD
    have st0 : Stt (W.ext Dl) σ (upd H1 Dl (.lst [])) ρ (μ ++ [.ml []]) := s1.ext hD ⟨[], upd_same, rfl⟩
    have hlen : μ.length = W.A.length := s1.sto.len
    refine ⟨fun i m H' => m + i = ds.length ∧ Stt (W.ext Dl) σ H' ρ (μ ++ [.ml ((ds.take i).flatMap fun d => (es d).map f)]) ∧ Ch (W.ext Dl).A (upd H1 Dl (.lst [])) H', ⟨ds.length, Nat.add_zero _, st0, Ch.refl _ _⟩, fun i m H' w => ?_⟩
    obtain ⟨hm, s', c⟩ := w
    have c1 : Ch (W.ext Dl).A H1 H' := (Ch.of sm0).trans c
    obtain ⟨i1, i2, i3⟩ := it (W.ext Dl).U H' (fun a z => z.elim .inl fun e => .inr (by rw [e]; exact hD)) s'.sto.uok (c1.kept s'.sto.sub)
    by_cases hi : i < ds.length
    · refine .inr ⟨i1 i hi, fun H3 => m - 1 + (i + 1) = ds.length ∧ Stt (W.ext Dl) σ H3 ρ (μ ++ [.ml ((ds.take (i + 1)).flatMap fun d => (es d).map f)]) ∧ Ch (W.ext Dl).A (upd H1 Dl (.lst [])) H3, fun H3 n3 => ⟨m - 1, by omega, n3⟩, fun x H2 y => ?_⟩
      obtain ⟨sm, d, hd', rx⟩ := i3 i x H2 hi y
      have htake : (ds.take (i + 1)).flatMap (fun d => (es d).map f) = ((ds.take i).flatMap fun d => (es d).map f) ++ (es d).map f := by
        rw [List.take_add_one, hd', List.flatMap_append]
        show _ ++ List.flatMap _ [d] = _
        rw [List.flatMap_cons, List.flatMap_nil, List.append_nil]
      have hpart : ∀ j, (((ds.take i).flatMap fun d => (es d).map f) ++ ((es d).take j).map f).length < 1000 := by
        intro j
        have h1 : ds = ds.take (i + 1) ++ ds.drop (i + 1) := (List.take_append_drop _ _).symm
        rw [h1, List.flatMap_append, List.length_append, htake, List.length_append, List.length_map] at hz
        rw [List.length_append, List.length_map, List.length_take]
        omega
      have s2 : Stt (W.ext Dl) (wipe σ vs) H2 (wipeR ρ vs) (μ ++ [.ml ((ds.take i).flatMap fun d => (es d).map f)]) := (s'.same sm).wipe vs
      refine hw.mono _ _ _ _ _ (fun σ2 H3 z => ⟨z.1.trans (wipe_wipe σ vs), z.2⟩) (hw.wp _ _ _ _ (hs i d Dl _ hd' (wipe σ vs) H2 x s2 rx _ fun σ2 H3 ρ2 μ2 e3 s3 n3 => ?_))
      obtain ⟨rfl, iv, hin⟩ := n3
      unfold tYes
      refine iteT ?_
      refine iv σ2 H3 s3 _ fun J1 H4 es' e4 s4 it1 p4 => ?_
      rw [show es' = es d from p4] at it1
      have c4 : Ch (W.ext Dl).A H' H4 := (Ch.of sm).trans (e3.trans e4)
      refine ⟨fun j k H' => k + j = (es d).length ∧ Stt (W.ext Dl) σ2 H' ρ2 (μ ++ [.ml (((ds.take i).flatMap fun d => (es d).map f) ++ ((es d).take j).map f)]) ∧ Ch (W.ext Dl).A H4 H', ⟨(es d).length, Nat.add_zero _, by rw [List.take_zero, List.map_nil, List.append_nil]; exact s4, Ch.refl _ _⟩, fun j k H5 w5 => ?_⟩
      obtain ⟨hk, s5, c5⟩ := w5
      obtain ⟨j1, j2, j3⟩ := it1 (W.ext Dl).U H5 (fun a z => .inl z) s5.sto.uok (c5.kept s5.sto.sub)
      by_cases hj : j < (es d).length
      · refine .inr ⟨j1 j hj, fun H6 => k - 1 + (j + 1) = (es d).length ∧ Stt (W.ext Dl) σ2 H6 ρ2 (μ ++ [.ml (((ds.take i).flatMap fun d => (es d).map f) ++ ((es d).take (j + 1)).map f)]) ∧ Ch (W.ext Dl).A H4 H6, fun H6 n6 => ⟨k - 1, by omega, n6⟩, fun x1 H6 y1 => ?_⟩
        obtain ⟨sm6, e, he', rx1⟩ := j3 j x1 H6 hj y1
        have s6 : Stt (W.ext Dl) (wipe σ2 vs1) H6 (wipeR ρ2 vs1) (μ ++ [.ml (((ds.take i).flatMap fun d => (es d).map f) ++ ((es d).take j).map f)]) := (s5.same sm6).wipe vs1
        refine hw1.mono _ _ _ _ _ (fun σ3 H7 z => ⟨z.1.trans (wipe_wipe σ2 vs1), z.2⟩) (hw1.wp _ _ _ _ (hin j e _ he' (wipe σ2 vs1) H6 x1 s6 rx1 _ fun σ3 H7 ρ3 μ3 e7 s7 n7 => ?_))
        obtain ⟨rfl, hev⟩ := n7
        refine iteT ?_
        refine hev σ3 H7 s7 _ fun y H8 e8 c8 s8 r8 p8 => ?_
        rw [show e8 = f e from p8] at r8
        obtain ⟨xs, ex, lx, so, kp, ch⟩ := s8.push hlen r8
        have k9 : Kept (W.ext Dl).U H5 (upd H8 Dl (.lst (xs ++ [y]))) := fun b o nb q => kp b o nb (((Ch.of sm6).trans (e7.trans c8)).kept s5.sto.sub b o nb q)
        refine ⟨xs, ex, by rw [lx]; exact small1000 (Nat.le_of_lt (hpart j)), by omega, ?_, c5.trans ((Ch.of sm6).trans ((e7.trans c8).trans ch))⟩
        have e9 : ((ds.take i).flatMap fun d => (es d).map f) ++ ((es d).take (j + 1)).map f = (((ds.take i).flatMap fun d => (es d).map f) ++ ((es d).take j).map f) ++ [f e] := by
          rw [List.take_add_one, he', List.map_append, List.append_assoc]
          rfl
        rw [e9]
        exact s5.kept k9 so
      · have ej : j = (es d).length := by omega
        subst ej
        refine .inl ⟨j2, by omega, ?_, c.trans (c4.trans c5)⟩
        rw [htake]
        rw [List.take_length] at s5
        exact s'.kept ((c4.trans c5).kept s'.sto.sub) s5.sto
    · have e : i = ds.length := by omega
      subst e
      refine .inl ⟨i2, ?_⟩
      have sW : Stt W σ H' ρ μ := s1.shrink s'
      have hA : (W.ext Dl).A[μ.length]? = some Dl := by
        show (W.A ++ [Dl])[μ.length]? = some Dl
        rw [s1.sto.len, List.getElem?_append_right (Nat.le_refl _), Nat.sub_self]
        rfl
      obtain ⟨a', ha', xs5, ex5, rx5⟩ := s'.sto.cell μ.length _ (by rw [List.getElem?_append_right (Nat.le_refl _), Nat.sub_self]; rfl)
      rw [hA] at ha'
      cases ha'
      rw [List.take_length] at rx5
      exact q (.ref Dl) H' (.lst (ds.flatMap fun d => (es d).map f)) (e1.trans (Ch.ext hD c1 (Ch.refl _ _))) sW ⟨Dl, xs5, rfl, f0.nU, ex5, rx5.weak fun a z => .inl z⟩ rfl
end
end RN
end

section
set_option Elab.async false
set_option linter.all false
set_option maxRecDepth 100000
set_option maxHeartbeats 2000000
/-! RN_Facts: what the module's names stand for; short rules over them. -/
namespace RN
open PySem PySem.Spec L2
structure Bf (mg : Str → Option Value) : Prop where
  b_ArithmeticError : mg "ArithmeticError" = none
  b_IndexError : mg "IndexError" = none
  b_ValueError : mg "ValueError" = none
  b_abs : mg "abs" = none
  b_all : mg "all" = none
  b_bool : mg "bool" = none
  b_dict : mg "dict" = none
  b_enumerate : mg "enumerate" = none
  b_int : mg "int" = none
  b_isinstance : mg "isinstance" = none
  b_len : mg "len" = none
  b_list : mg "list" = none
  b_max : mg "max" = none
  b_min : mg "min" = none
  b_property : mg "property" = none
  b_range : mg "range" = none
  b_repr : mg "repr" = none
  b_set : mg "set" = none
  b_sorted : mg "sorted" = none
  b_str : mg "str" = none
  b_sum : mg "sum" = none
  b_super : mg "super" = none
  b_tuple : mg "tuple" = none
  b_zip : mg "zip" = none
  c_SIXTY : ∃ t, mg "SIXTY" = some (Value.int (1000000000000000000000000000000000000000000000000000000000000) t)
  c_MOST_CORNERS : ∃ t, mg "MOST_CORNERS" = some (Value.int (400) t)
  c_FAR : ∃ t, mg "FAR" = some (Value.int (1000000000000000000) t)
  c_PAIR_rises : ∃ t, mg "PAIR_rises" = some (Value.int (2) t)
  c_FLAT : ∃ t, mg "FLAT" = some (Value.str "flat" t)
  c_STEEP : ∃ t, mg "STEEP" = some (Value.str "steep" t)
  c_LEVEL : ∃ t, mg "LEVEL" = some (Value.str "level" t)
  c_PLUMB : ∃ t, mg "PLUMB" = some (Value.str "plumb" t)
  c_MOST_KNOTS : ∃ t, mg "MOST_KNOTS" = some (Value.int (12) t)
  c_MOST_WIRES : ∃ t, mg "MOST_WIRES" = some (Value.int (24) t)
  c_MOST_TURNS : ∃ t, mg "MOST_TURNS" = some (Value.int (40) t)
  c_NEAR : ∃ t, mg "NEAR" = some (Value.int (1000000000000) t)
  c_TRIPLE_nets : ∃ t, mg "TRIPLE_nets" = some (Value.int (3) t)
  c_PAIR_heights : ∃ t, mg "PAIR_heights" = some (Value.int (2) t)
  c_TRIPLE_heights : ∃ t, mg "TRIPLE_heights" = some (Value.int (3) t)
  c_FORWARD : ∃ t, mg "FORWARD" = some (Value.int (1) t)
  c_BACK : ∃ t, mg "BACK" = some (Value.int (-1) t)
  c_HEIGHTS : ∃ t, mg "HEIGHTS" = some (Value.str "heights" t)
  c_LOOP : ∃ t, mg "LOOP" = some (Value.str "loop" t)
  c_MOST : ∃ t, mg "MOST" = some (Value.str "most" t)
  c_ENDLESS : ∃ t, mg "ENDLESS" = some (Value.str "endless" t)
section
variable {X : Cx} {x : Str} {pos p : Pos} {a b e : Expr} {ta tb te : TE}
theorem pe_gint {i : Int} (h : ∃ t, X.mg x = some (.int i t)) (hg : Gl X x := by rfl) (hd : (x == ("__debug__" : Str)) = false := by decide) : PE X (.Name x pos) (tC (.int i)) := by
  obtain ⟨t, h⟩ := h
  exact pe_glob hg h ⟨t, rfl⟩ hd
theorem pe_gstr {z : Str} (h : ∃ t, X.mg x = some (.str z t)) (hg : Gl X x := by rfl) (hd : (x == ("__debug__" : Str)) = false := by decide) : PE X (.Name x pos) (tC (.str z)) := by
  obtain ⟨t, h⟩ := h
  exact pe_glob hg h ⟨t, rfl⟩ hd
theorem pe_isi (hm : X.mg "isinstance" = none) (ha : PE X a ta) (hb : PE X b tb) (hg : Gl X "isinstance" := by rfl) (h1 : starEach [a, b] X.env = (false, eval a X.env) :: starEach [b] X.env := by rfl) (h2 : starEach [b] X.env = (false, eval b X.env) :: starEach [] X.env := by rfl)
    (hpl : (backTo pos (starEach [b] X.env)).any (·.1) = false := by rfl) : PE X (.Call (.Name "isinstance" p) [a, b] [] pos) (tCB (rIsi X.K) (tCons ta (tCons tb tNil))) :=
  pe_callB call_isi hg hm PyProof.Rows.boot_isinstance (pa_cons ha (pa_cons hb pa_nil h2) h1) (by decide) (by decide) h1 hpl
theorem pe_tyn {n : String} (hm : X.mg (Str.ofString n) = none) (hv : bootBuiltins (Str.ofString n) = some (.type n)) (hg : Gl X (Str.ofString n) := by rfl) (h1 : Str.ofString n ≠ ("__name__" : Str) := by decide) (hd : (Str.ofString n == ("__debug__" : Str)) = false := by decide) :
    PE X (.Name (Str.ofString n) pos) (tC (.ty n)) := pe_bltn hg hm hv rfl h1 hd
theorem pe_len (hm : X.mg "len" = none) (ha : PE X a ta) (hg : Gl X "len" := by rfl) (h1 : starEach [a] X.env = (false, eval a X.env) :: starEach [] X.env := by rfl) : PE X (.Call (.Name "len" p) [a] [] pos) (tCB (rLenS X.K) (tCons ta tNil)) :=
  pe_callB call_len_seq hg hm PySem.boot_len (pa_cons ha pa_nil h1) (by decide) (by decide) h1 (by rfl)
theorem pe_all (hc : X.calm = true) (hm : X.mg "all" = none) (ha : PE X a ta) (hg : Gl X "all" := by rfl) (h1 : starEach [a] X.env = (false, eval a X.env) :: starEach [] X.env := by rfl) : PE X (.Call (.Name "all" p) [a] [] pos) (tCB (rAll X.K) (tCons ta tNil)) :=
  pe_callB (cr_all hc) hg hm (by decide +kernel) (pa_cons ha pa_nil h1) (by decide) (by decide) h1 (by rfl)
theorem pe_sum (hc : X.calm = true) (hm : X.mg "sum" = none) (ha : PE X a ta) (hg : Gl X "sum" := by rfl) (h1 : starEach [a] X.env = (false, eval a X.env) :: starEach [] X.env := by rfl) : PE X (.Call (.Name "sum" p) [a] [] pos) (tCB (rSum X.K) (tCons ta tNil)) :=
  pe_callB (cr_sum hc) hg hm (by decide +kernel) (pa_cons ha pa_nil h1) (by decide) (by decide) h1 (by rfl)
theorem pe_list (hm : X.mg "list" = none) (ha : PE X a ta) (hg : Gl X "list" := by rfl) (h1 : starEach [a] X.env = (false, eval a X.env) :: starEach [] X.env := by rfl) : PE X (.Call (.Name "list" p) [a] [] pos) (tCB (rListS X.K) (tCons ta tNil)) :=
  pe_callTy call_list_of hg hm (by decide +kernel) (pa_cons ha pa_nil h1) (by decide) (by decide) h1 (by rfl)
theorem pe_tuple (hm : X.mg "tuple" = none) (ha : PE X a ta) (hg : Gl X "tuple" := by rfl) (h1 : starEach [a] X.env = (false, eval a X.env) :: starEach [] X.env := by rfl) : PE X (.Call (.Name "tuple" p) [a] [] pos) (tCB (rTupS X.K) (tCons ta tNil)) :=
  pe_callTy call_tuple_of hg hm (by decide +kernel) (pa_cons ha pa_nil h1) (by decide) (by decide) h1 (by rfl)
end
end RN
end

section
set_option Elab.async false
set_option linter.all false
set_option maxRecDepth 100000
set_option autoImplicit false
/-! RN_FactsK: rules with the kit's words named, for the insides of comprehensions. -/
namespace RN
open PySem PySem.Spec L2
section
variable {X : Cx} {K : PySem.W.Frag} {x : Str} {pos p : Pos} {a b e : Expr} {ta tb te : TE}
theorem ix_listK (h : X.K = K) : IxR X (rIxL K) := h ▸ ix_list
theorem ix_tupK (h : X.K = K) : IxR X (rIxT K) := h ▸ ix_tup
theorem op_inK (h : X.K = K) : OpR X (compareOp .In) (rIn K false) := h ▸ op_in_seq
theorem op_notInK (h : X.K = K) : OpR X (compareOp .NotIn) (rIn K true) := h ▸ op_notIn_seq
theorem sl_tupK (h : X.K = K) : SlR X (rSlA K) := h ▸ sl_tupA
theorem pe_isiK (h : X.K = K) (hm : X.mg "isinstance" = none) (ha : PE X a ta) (hb : PE X b tb) (hg : Gl X "isinstance" := by rfl) (h1 : starEach [a, b] X.env = (false, eval a X.env) :: starEach [b] X.env := by rfl) (h2 : starEach [b] X.env = (false, eval b X.env) :: starEach [] X.env := by rfl)
    (hpl : (backTo pos (starEach [b] X.env)).any (·.1) = false := by rfl) : PE X (.Call (.Name "isinstance" p) [a, b] [] pos) (tCB (rIsi K) (tCons ta (tCons tb tNil))) := h ▸ pe_isi hm ha hb hg h1 h2 hpl
theorem pe_lenK (h : X.K = K) (hm : X.mg "len" = none) (ha : PE X a ta) (hg : Gl X "len" := by rfl) (h1 : starEach [a] X.env = (false, eval a X.env) :: starEach [] X.env := by rfl) : PE X (.Call (.Name "len" p) [a] [] pos) (tCB (rLenS K) (tCons ta tNil)) := h ▸ pe_len hm ha hg h1
end
end RN
end

section
set_option linter.all false
/-! RN_Data: rises, wires, ranges, links as plain data, and as D. -/
namespace RN
open PySem
inductive Ri where
  | lev (y : Int)
  | plu (x : Int)
  | cor (fl : Bool) (cs : List (Int × Int))
def kS (fl : Bool) : Str := if fl = true then "flat" else "steep"
def ptD (p : Int × Int) : D := .tup [.int p.1, .int p.2]
def Ri.word : Ri → Str
  | .lev _ => "level"
  | .plu _ => "plumb"
  | .cor fl _ => kS fl
def Ri.told : Ri → D
  | .lev y => .int y
  | .plu x => .int x
  | .cor _ cs => .tup (cs.map ptD)
def Ri.d (r : Ri) : D := .tup [.str r.word, r.told]
def small (i : Int) : Bool := decide (-(10 ^ 12) ≤ i) && decide (i ≤ 10 ^ 12)
/-- from a corner to the next one the other kind leads -/
def altB (k : Bool) (a b : Int × Int) : Bool := if k = true then decide (a.2 = b.2) && decide (a.1 < b.1) else decide (a.1 = b.1) && decide (a.2 < b.2)
def alt : Bool → List (Int × Int) → Bool
  | _, [] => true
  | _, [_] => true
  | k, a :: b :: r => altB (!k) a b && alt (!k) (b :: r)
def Ri.ok : Ri → Bool
  | .lev y => small y
  | .plu x => small x
  | .cor fl cs => decide (1 ≤ cs.length) && decide (cs.length ≤ 40) && cs.all (fun p => small p.1 && small p.2) && alt fl cs
structure Wi where
  t : Nat
  h : Nat
  r : Ri
def Wi.d (x : Wi) : D := .tup [.int (x.t : Int), .int (x.h : Int), x.r.d]
def Wi.ok (k : Nat) (x : Wi) : Bool := decide (x.t < k) && decide (x.h < k) && decide (x.t ≠ x.h) && x.r.ok
def wsD (ws : List Wi) : D := .tup (ws.map Wi.d)
def oD : Option Int → D
  | none => .non
  | some i => .int i
abbrev Rg := Option Int × Option Int
def rgD (r : Rg) : D := .tup [oD r.1, oD r.2]
def rsD (rs : List Rg) : D := .tup (rs.map rgD)
/-- what a net is: so many knots, wires -/
structure NetD where
  k : Nat
  ws : List Wi
def NetD.d (n : NetD) : D := .net (n.k : Int) (wsD n.ws)
def NetD.ok (n : NetD) : Prop := 1 ≤ n.k ∧ n.k ≤ 12 ∧ n.ws.length ≤ 24 ∧ n.ws.all (Wi.ok n.k) = true
theorem small_iff {i : Int} (h : small i = true) : -(10 ^ 12) ≤ i ∧ i ≤ 10 ^ 12 := by
  unfold small at h
  rw [Bool.and_eq_true, decide_eq_true_eq, decide_eq_true_eq] at h
  exact h
end RN
end

section
set_option Elab.async false
set_option linter.all false
set_option maxRecDepth 100000
set_option maxHeartbeats 4000000
/-! RN_W1: integers. -/
namespace RN
open PySem PySem.Spec L2
abbrev FnP (K : PySem.W.Frag) (x : Str) (st : Stmt) (f : Addr) (fd : FuncData) : Prop := FunD K x x (defArgs st) (defBody st) (defScope st) [] [] f fd
/-! what they answer -/
def D.whole : D → Bool
  | .int _ => true
  | _ => false
def D.within : D → Int → Int → Bool
  | .int i, a, b => decide (a ≤ i) && decide (i ≤ b)
  | _, _, _ => false
def D.integer : D → Bool
  | .int i => decide (-(10 ^ 60) < i) && decide (i < 10 ^ 60)
  | _ => false
abbrev spWhole (CN : Addr) : Sp := spG CN (fun x => [x]) D.pl fun x => .bl x.whole
abbrev spInteger (CN : Addr) : Sp := spG CN (fun x => [x]) D.pl fun x => .bl x.integer
abbrev spWithin (CN : Addr) : Sp := spG (α := D × Int × Int) CN (fun z => [z.1, .int z.2.1, .int z.2.2]) (fun z => z.1.pl) fun z => .bl (z.1.within z.2.1 z.2.2)
abbrev spNear (CN : Addr) : Sp := spG (α := D × Int) CN (fun z => [z.1, .int z.2]) (fun z => z.1.pl) fun z => .bl (z.1.within (-z.2) z.2)
section
variable {P : Program} {w : World} {K : PySem.W.Frag} {mg : Str → Option Value} {base : Heap} {CN : Addr} {f : Addr} {fd : FuncData}
theorem ok_is_whole (B : Bf mg) (g : mg "is_whole" = some (.ref f)) (F : FnP K "is_whole" s_is_whole f fd) : Cal P w K mg base CX0 1 "is_whole" ["value"] (spWhole CN) := by
  refine cal_mk g F (fun _ _ _ _ _ _ us hl => match us, hl with | [_], _ => rfl) (fn_N _ _ _ F sc_is_whole (fun _ => rfl) fun cdv A outer s H E hr x hx => ?_)
  obtain ⟨n, hn⟩ := Option.isSome_iff_exists.mp hx
  refine ⟨_, pss_one (ps_ret (pe_and (pe_isi B.b_isinstance (pv 0) (pe_tyn (n := "int") B.b_int PyProof.Rows.boot_int)) (pe_one (pe_not (pe_isi B.b_isinstance (pv 0) (pe_tyn (n := "bool") B.b_bool PyProof.Rows.boot_bool)))))), fun U => ?_⟩
  refine sv_ret1 (EvP.to (ev_andV (a := decide (n = "int" ∨ n = "bool")) (b := !decide (n = "bool")) (ev_isi (ev_var rfl) ev_ty hn ?_) fun _ => ev_notV (ev_isi (ev_var rfl) ev_ty hn ?_)) ?_) rfl
  all_goals cases x <;> cases hn <;> first | decide +kernel | rfl
theorem ok_is_integer (B : Bf mg) (C1 : Cal P w K mg base CX0 1 "is_whole" ["value"] (spWhole CN)) (g : mg "is_integer" = some (.ref f)) (F : FnP K "is_integer" s_is_integer f fd) : Cal P w K mg base CX0 2 "is_integer" ["value"] (spInteger CN) := by
  refine cal_mk g F (fun _ _ _ _ _ _ us hl => match us, hl with | [_], _ => rfl) (fn_N _ _ _ F sc_is_integer (fun _ => rfl) fun cdv A outer s H E hr x hx => ?_)
  refine ⟨_, pss_one (ps_ret (pe_and (pe_own C1 hr rfl pass0 (pa_cons (pv 0) pa_nil)) (pe_one (pe_chain op_lt op_lt (pe_un un_neg (pe_gint B.c_SIXTY)) (pv 0) (pe_gint B.c_SIXTY))))), fun U => ?_⟩
  refine sv_ret1 (EvP.to (ev_andV (b := x.integer) (ev_callG x (ea_cons (ev_var rfl) ea_nil) hx) fun hb => ?_) ?_) rfl
  · cases x <;> try cases hb
    exact ev_chain (ev_un ev_int) (ev_var rfl) (od_I0 fun _ => rfl) (fun _ => ev_int) fun _ => od_I0 fun _ => rfl
  · cases x <;> rfl
theorem ok_is_within (B : Bf mg) (C1 : Cal P w K mg base CX0 1 "is_whole" ["value"] (spWhole CN)) (g : mg "is_within" = some (.ref f)) (F : FnP K "is_within" s_is_within f fd) : Cal P w K mg base CX0 2 "is_within" ["value", "least", "most"] (spWithin CN) := by
  refine cal_mk g F (fun _ _ _ _ _ _ us hl => match us, hl with | [_, _, _], _ => rfl) (fn_N _ _ _ F sc_is_within (fun _ => rfl) fun cdv A outer s H E hr z hx => ?_)
  obtain ⟨x, a, b⟩ := z
  refine ⟨_, pss_one (ps_ret (pe_and (pe_own C1 hr rfl pass0 (pa_cons (pv 0) pa_nil)) (pe_one (pe_chain op_le op_le (pv 1) (pv 0) (pv 2))))), fun U => ?_⟩
  refine sv_ret1 (EvP.to (ev_andV (b := x.within a b) (ev_callG x (ea_cons (ev_var rfl) ea_nil) hx) fun hb => ?_) ?_) rfl
  · cases x <;> try cases hb
    exact ev_chain (ev_var rfl) (ev_var rfl) (od_I0 fun _ => rfl) (fun _ => ev_var rfl) fun _ => od_I0 fun _ => rfl
  · cases x <;> rfl
theorem ok_is_near (C1 : Cal P w K mg base CX0 2 "is_within" ["value", "least", "most"] (spWithin CN)) (g : mg "is_near" = some (.ref f)) (F : FnP K "is_near" s_is_near f fd) : Cal P w K mg base CX0 3 "is_near" ["value", "size"] (spNear CN) := by
  refine cal_mk g F (fun _ _ _ _ _ _ us hl => match us, hl with | [_, _], _ => rfl) (fn_N _ _ _ F sc_is_near (fun _ => rfl) fun cdv A outer s H E hr z hx => ?_)
  obtain ⟨x, a⟩ := z
  refine ⟨_, pss_one (ps_ret (pe_own C1 hr rfl pass0 (pa_cons (pv 0) (pa_cons (pe_un un_neg (pv 1)) (pa_cons (pv 1) pa_nil))))), fun U => ?_⟩
  exact sv_ret1 (ev_callG (x, -a, a) (ea_cons (ev_var rfl) (ea_cons (ev_un (ev_var rfl)) (ea_cons (ev_var rfl) ea_nil))) hx) rfl
end
end RN
end

section
set_option Elab.async false
set_option linter.all false
set_option maxRecDepth 100000
set_option maxHeartbeats 4000000
/-! RN_W2: rises. -/
namespace RN
open PySem PySem.Spec L2
def kindAt (fl : Bool) : Nat → Bool
  | 0 => fl
  | i + 1 => !(kindAt fl i)
theorem kS_eq (fl : Bool) : decide (kS fl = ("flat" : Str)) = fl := by cases fl <;> decide
theorem tyN_pl {x : D} {n : String} (h : x.tyN = some n) : x.pl := by
  unfold D.pl
  rw [h]
  rfl
abbrev spKind (CN : Addr) : Sp := spG (α := Bool) CN (fun b => [.str (kS b)]) (fun _ => True) fun b => .str (kS (!b))
abbrev spPoint (CN : Addr) : Sp := spG (α := Int × Int) CN (fun p => [ptD p]) (fun p => (small p.1 && small p.2) = true) fun _ => .bl true
abbrev spCorners (CN : Addr) : Sp := spG (α := Bool × List (Int × Int)) CN (fun z => [.str (kS z.1), .tup (z.2.map ptD)]) (fun z => (Ri.cor z.1 z.2).ok = true) fun _ => .bl true
abbrev spRise (CN : Addr) : Sp := spG (α := Ri) CN (fun r => [r.d]) (fun r => r.ok = true) fun _ => .bl true
section
variable {P : Program} {w : World} {K : PySem.W.Frag} {mg : Str → Option Value} {base : Heap} {CN : Addr} {f : Addr} {fd : FuncData}
theorem ok_other_kind (B : Bf mg) (g : mg "other_kind" = some (.ref f)) (F : FnP K "other_kind" s_other_kind f fd) : Cal P w K mg base CX0 1 "other_kind" ["kind"] (spKind CN) := by
  refine cal_mk g F (fun _ _ _ _ _ _ us hl => match us, hl with | [_], _ => rfl) (fn_N _ _ _ F sc_other_kind (fun _ => rfl) fun cdv A outer s H E hr b hx => ?_)
  refine ⟨_, (pss_one (ps_ret (pe_ifExp (pt_cmpR op_eq (pv 0) (pe_gstr B.c_FLAT) (nomark _)) (pe_gstr B.c_STEEP) (pe_gstr B.c_FLAT)))), fun U => ?_⟩
  refine sv_ret1 (ev_if (b := b) ((eb_T (ev_eqS (ev_var rfl) ev_str)).to (kS_eq b)) (fun h => ?_) fun h => ?_) rfl
  · rw [h]
    exact ev_str
  · rw [h]
    exact ev_str
theorem near_far {i : Int} (h : small i = true) : (D.int i).within (-1000000000000000000) 1000000000000000000 = true := by
  obtain ⟨h1, h2⟩ := small_iff h
  unfold D.within
  rw [Bool.and_eq_true, decide_eq_true_eq, decide_eq_true_eq]
  omega
theorem near_near {i : Int} (h : small i = true) : (D.int i).within (-1000000000000) 1000000000000 = true := by
  obtain ⟨h1, h2⟩ := small_iff h
  unfold D.within
  rw [Bool.and_eq_true, decide_eq_true_eq, decide_eq_true_eq]
  omega
theorem ok_is_point (B : Bf mg) (C_is_near : Cal P w K mg base CX0 3 "is_near" ["value", "size"] (spNear CN)) (g : mg "is_point" = some (.ref f)) (F : FnP K "is_point" s_is_point f fd) : Cal P w K mg base CX0 4 "is_point" ["value"] (spPoint CN) := by
  refine cal_mk g F (fun _ _ _ _ _ _ us hl => match us, hl with | [_], _ => rfl) (fn_N _ _ _ F sc_is_point (fun _ => rfl) fun cdv A outer s H E hr p hx => ?_)
  obtain ⟨x, y⟩ := p
  replace hx : (small x && small y) = true := hx
  rw [Bool.and_eq_true] at hx
  refine ⟨_, (pss_one (ps_ret (pe_and (pe_isi B.b_isinstance (pv 0) (pe_tyn (n := "tuple") B.b_tuple PyProof.Rows.boot_tuple)) (pe_and (pe_cmpR op_eq (pe_len B.b_len (pv 0)) (pe_gint B.c_PAIR_rises) (nomark _)) (pe_one (pe_all rfl B.b_all (pe_lc (own := [("number", 1)]) (g := (gName 1)) rfl sc_is_point.nd (pi_tup (pv 0)) (blkOk_by (own := [("number", 1)]) (N := n_is_point) (sc := defScope s_is_point) (by decide +kernel)) (fun _ _ _ _ _ => (pg_name (i := 1) sc_is_point.nd rfl (by first | exact Or.inl rfl | exact Or.inr rfl))) (fun _ _ _ _ _ => pts_nil) (fun _ _ _ _ _ => (pe_own C_is_near (hr.mono (by decide)) rfl pass0 (pa_cons (pv 1) (pa_cons (pe_gint B.c_FAR) pa_nil))))))))))), fun U => ?_⟩
  refine sv_ret1 (EvP.to (ev_andV (ev_isT (ev_var rfl)) fun _ => ev_andV (ev_eqI (ev_lenT (ev_var rfl)) ev_int) fun _ => ev_allM (f := fun d => d.within (-1000000000000000000) 1000000000000000000) (ev_map (f := fun d => .bl (d.within (-1000000000000000000) 1000000000000000000)) (iv_tup (ev_var rfl)) (wp_name (by decide)) (show 2 < 1000 by decide) fun i d p acc hd => ?_)) ?_) rfl
  · refine gv_name ⟨rfl, ev_callG (d, 1000000000000000000) (ea_cons (ev_var rfl) (ea_cons ev_int ea_nil)) ?_⟩
    match i, hd with
    | 0, hd => cases hd; rfl
    | 1, hd => cases hd; rfl
  · show D.bl (true && (decide (((2 : Nat) : Int) = 2) && ((D.int x).within _ _ && ((D.int y).within _ _ && true)))) = .bl true
    rw [near_far hx.1, near_far hx.2]
    rfl
theorem alt_get : ∀ (fl : Bool) (cs : List (Int × Int)) (i : Nat) (a b : Int × Int), alt fl cs = true → cs[i]? = some a → cs[i + 1]? = some b → altB (kindAt fl (i + 1)) a b = true
  | fl, a :: b :: r, 0, a', b', h, h1, h2 => by
    cases h1
    cases h2
    unfold alt at h
    rw [Bool.and_eq_true] at h
    exact h.1
  | fl, a :: b :: r, i + 1, a', b', h, h1, h2 => by
    unfold alt at h
    rw [Bool.and_eq_true] at h
    have q := alt_get (!fl) (b :: r) i a' b' h.2 h1 h2
    have e : ∀ j, kindAt (!fl) j = kindAt fl (j + 1) := by
      intro j
      induction j with
      | zero => rfl
      | succ j ih =>
        show (!(kindAt (!fl) j)) = !(kindAt fl (j + 1))
        rw [ih]
    rw [e] at q
    exact q
  | fl, [a], i, a', b', h, h1, h2 => by simp at h2
  | fl, [], i, a', b', h, h1, h2 => by simp at h2
theorem zipD_getV {ds es : List D} {i : Nat} {d : D} (h : (zipD ds es)[i]? = some d) : ∃ x y, ds[i]? = some x ∧ es[i]? = some y ∧ d = .tup [x, y] := by
  unfold zipD at h
  rw [List.getElem?_map] at h
  cases q : (ds.zip es)[i]? with
  | none => rw [q] at h; cases h
  | some p =>
    rw [q] at h
    cases h
    obtain ⟨h1, h2⟩ := List.getElem?_zip_eq_some.mp q
    exact ⟨p.1, p.2, h1, h2, rfl⟩
theorem getMap {α : Type} {f : α → D} {l : List α} {i : Nat} {d : D} (h : (l.map f)[i]? = some d) : ∃ x, l[i]? = some x ∧ d = f x := by
  rw [List.getElem?_map] at h
  cases q : l[i]? with
  | none => rw [q] at h; cases h
  | some p =>
    rw [q] at h
    cases h
    exact ⟨p, rfl, rfl⟩
theorem cut_from1 (ds : List D) : cutD ds (some 1) none = ds.drop 1 := by
  unfold cutD
  rw [show HT.sIx ds.length 0 (some 1) = min 1 ds.length from HT.sIx_nat ds.length 0 1, HT.sIx_none]
  cases ds with
  | nil => rfl
  | cons x r =>
    rw [show min 1 (x :: r).length = 1 by
      rw [List.length_cons]
      omega]
    show (List.take ((x :: r).length - 1) r) = r
    rw [List.length_cons, Nat.add_sub_cancel]
    exact List.take_length
theorem ok_are_corners (B : Bf mg) (C_is_point : Cal P w K mg base CX0 4 "is_point" ["value"] (spPoint CN)) (C_other_kind : Cal P w K mg base CX0 1 "other_kind" ["kind"] (spKind CN)) (g : mg "are_corners" = some (.ref f))
    (F : FnP K "are_corners" s_are_corners f fd) : Cal P w K mg base CX0 5 "are_corners" ["first", "value"] (spCorners CN) := by
  refine cal_mk g F (fun _ _ _ _ _ _ us hl => match us, hl with | [_, _], _ => rfl) (fn_N _ _ _ F sc_are_corners (fun _ => rfl) fun cdv A outer s H E hr z hx => ?_)
  obtain ⟨fl, cs⟩ := z
  replace hx : (Ri.cor fl cs).ok = true := hx
  unfold Ri.ok at hx
  rw [Bool.and_eq_true, Bool.and_eq_true, Bool.and_eq_true, decide_eq_true_eq, decide_eq_true_eq] at hx
  obtain ⟨⟨⟨h1, h2⟩, h3⟩, h4⟩ := hx
  refine ⟨_, (pss_cons (ps_if (PW.pt (pw_or (pt_not (pt_val (pe_isi B.b_isinstance (pv 1) (pe_tyn (n := "tuple") B.b_tuple PyProof.Rows.boot_tuple)))) (pw_or (pt_not (pt_chain op_le op_le pe_int (pe_len B.b_len (pv 1)) (pe_gint B.c_MOST_CORNERS))) (pw_or1 (pt_not (pt_val (pe_all rfl B.b_all (pe_lc (own := [("one", 3)]) (g := (gName 3)) rfl sc_are_corners.nd (pi_tup (pv 1)) (blkOk_by (own := [("one", 3)]) (N := n_are_corners) (sc := defScope s_are_corners) (by decide +kernel)) (fun _ _ _ _ _ => (pg_name (i := 3) sc_are_corners.nd rfl (by first | exact Or.inl rfl | exact Or.inr rfl))) (fun _ _ _ _ _ => pts_nil) (fun _ _ _ _ _ => (pe_own C_is_point (hr.mono (by decide)) rfl pass0 (pa_cons (pv 3) pa_nil))))))))))) (pss_one (ps_ret pe_bl)) pss_nil) (pss_cons (ps_set (i := 2) sc_are_corners.nd rfl (by first | exact Or.inl rfl | exact Or.inr rfl) (pv 0)) (pss_cons (ps_for PassesOwn.never rfl (RZ.pi_zipA rfl B.b_zip (pa_cons (pv 1) (pa_cons (pe_slice sl_tupA (pv 1) (po_some pe_int) po_none) pa_nil))) (pg_tup rfl (pgs_cons (pg_name (i := 3) sc_are_corners.nd rfl (by first | exact Or.inl rfl | exact Or.inr rfl)) (pgs_cons (pg_name (i := 4) sc_are_corners.nd rfl (by first | exact Or.inl rfl | exact Or.inr rfl)) pgs_nil))) (pss_cons (ps_set (i := 2) sc_are_corners.nd rfl (by first | exact Or.inl rfl | exact Or.inr rfl) (pe_own C_other_kind (hr.mono (by decide)) rfl pass0 (pa_cons (pv 2) pa_nil))) (pss_cons (ps_asg (pe_ifExp (pt_cmpR op_eq (pv 2) (pe_gstr B.c_FLAT) (nomark _)) (pe_tup (pa_cons pe_int (pa_cons pe_int pa_nil))) (pe_tup (pa_cons pe_int (pa_cons pe_int pa_nil)))) (pg_tup rfl (pgs_cons (pg_name (i := 5) sc_are_corners.nd rfl (by first | exact Or.inl rfl | exact Or.inr rfl)) (pgs_cons (pg_name (i := 6) sc_are_corners.nd rfl (by first | exact Or.inl rfl | exact Or.inr rfl)) pgs_nil)))) (pss_one (ps_if (PW.pt (pw_or (pt_cmpR op_ne (pe_ix ix_tup (pv 3) (pv 5) (fun _ _ => rfl)) (pe_ix ix_tup (pv 4) (pv 5) (fun _ _ => rfl)) (nomark _)) (pw_or1 (pt_cmpR op_ge (pe_ix ix_tup (pv 3) (pv 6) (fun _ _ => rfl)) (pe_ix ix_tup (pv 4) (pv 6) (fun _ _ => rfl)) (nomark _))))) (pss_one (ps_ret pe_bl)) pss_nil))))) (pss_one (ps_ret pe_bl))))), fun U => ?_⟩
  have hlen : (cs.map ptD).length = cs.length := List.length_map ..
  refine sv_guard (b := false) (EvB.to (eb_or (eb_not (eb_B (ev_isT (ev_var rfl)))) fun _ => eb_or (a := false) (EvB.to (eb_not (eb_T (ev_chain ev_int (ev_lenT (ev_var rfl)) (od_I0 fun _ => rfl) (fun _ => ev_int) fun _ => od_I0 fun _ => rfl))) ?_) fun _ =>
    EvB.to (eb_not (eb_B (ev_allM (f := fun _ => true) (ev_map (f := fun _ => .bl true) (iv_tup (ev_var rfl)) (wp_name (by decide)) (show (cs.map ptD).length < 1000 by omega) fun i d p acc hd => ?_)))) ?_) rfl) (fun h => nomatch h) fun _ => ?_
  · rw [hlen, decide_eq_true (show (1 : Int) ≤ (cs.length : Int) by omega), decide_eq_true (show (cs.length : Int) ≤ 400 by omega)]
    rfl
  · obtain ⟨q, hq, rfl⟩ := getMap hd
    refine gv_name ⟨rfl, ev_callG q (ea_cons (ev_var rfl) ea_nil) ?_⟩
    exact List.all_eq_true.mp h3 q (List.mem_of_getElem? hq)
  · rw [List.all_eq_true.mpr fun _ _ => rfl]
    rfl
  refine sv_let1 (ev_var rfl) ?_
  refine sv_seq (N1 := fun _ _ => True) (sv_for (fun i ρ' μ' => μ' = [] ∧ ∃ x y u v, ρ' = [.d (.str (kS fl)), .d (.tup (cs.map ptD)), .d (.str (kS (kindAt fl i))), x, y, u, v]) (iv_zip (ea_cons (ev_var rfl) (ea_cons (ev_slT (ev_var rfl) (eo_some ev_int) eo_none) ea_nil))) ⟨rfl, .no, .no, .no, .no, rfl⟩ (fun i d ρ' μ' hd inv => ?_) fun _ _ _ => trivial) fun ρ' μ' _ => sv_ret1 ev_bl rfl
  obtain ⟨rfl, x, y, u, v, rfl⟩ := inv
  obtain ⟨d1, d2, q1, q2, rfl⟩ := zipD_getV hd
  rw [cut_from1, List.getElem?_drop, Nat.add_comm] at q2
  obtain ⟨p1, hp1, rfl⟩ := getMap q1
  obtain ⟨p2, hp2, rfl⟩ := getMap q2
  have hk := alt_get fl cs i p1 p2 h4 hp1 hp2
  refine gv_tup rfl (gs_cons (gv_name (gs_cons (gv_name (gs_nil ?_)))))
  refine sv_let1 (ev_callG (kindAt fl i) (ea_cons (ev_var rfl) ea_nil) trivial) ?_
  have hk' : kindAt fl (i + 1) = !(kindAt fl i) := rfl
  rw [← hk']
  refine sv_seq (N1 := fun ρ' μ' => μ' = [] ∧ ρ' = [.d (.str (kS fl)), .d (.tup (cs.map ptD)), .d (.str (kS (kindAt fl (i + 1)))), .d (ptD p1), .d (ptD p2), .d (.int (if kindAt fl (i + 1) = true then 1 else 0)), .d (.int (if kindAt fl (i + 1) = true then 0 else 1))])
    (sv_asg (P := Is (.tup [.int (if kindAt fl (i + 1) = true then 1 else 0), .int (if kindAt fl (i + 1) = true then 0 else 1)])) (ev_if (b := kindAt fl (i + 1)) ((eb_T (ev_eqS (ev_var rfl) ev_str)).to (kS_eq _)) (fun h => ?_) fun h => ?_) fun d e => ?_) fun ρ' μ' n => ?_
  · rw [h]
    exact ev_tup1 (ea_cons ev_int (ea_cons ev_int ea_nil))
  · rw [h]
    exact ev_tup1 (ea_cons ev_int (ea_cons ev_int ea_nil))
  · rw [show d = _ from e]
    exact gv_tup rfl (gs_cons (gv_name (gs_cons (gv_name (gs_nil ⟨rfl, rfl⟩)))))
  · obtain ⟨rfl, rfl⟩ := n
    refine sv_if (b := false) ?_ (fun h => nomatch h) fun _ => sv_next ⟨rfl, _, _, _, _, rfl⟩
    unfold altB at hk
    cases hq : kindAt fl (i + 1) with
    | true =>
      rw [hq, if_pos rfl, Bool.and_eq_true, decide_eq_true_eq, decide_eq_true_eq] at hk
      refine EvB.to (eb_or (a := false) (EvB.to (eb_T (ev_neI (ev_ixT (i := 1) (d := .int p1.2) rfl (ev_var rfl) (ev_var rfl)) (ev_ixT (i := 1) (d := .int p2.2) rfl (ev_var rfl) (ev_var rfl)))) ?_) fun _ =>
        EvB.to (b' := false) (eb_T (ev_ge (ev_ixT (i := 0) (d := .int p1.1) rfl (ev_var rfl) (ev_var rfl)) (ev_ixT (i := 0) (d := .int p2.1) rfl (ev_var rfl) (ev_var rfl)))) ?_) rfl
      · rw [decide_eq_true hk.1]
        rfl
      · exact decide_eq_false (by omega)
    | false =>
      rw [hq, if_neg (by decide), Bool.and_eq_true, decide_eq_true_eq, decide_eq_true_eq] at hk
      refine EvB.to (eb_or (a := false) (EvB.to (eb_T (ev_neI (ev_ixT (i := 0) (d := .int p1.1) rfl (ev_var rfl) (ev_var rfl)) (ev_ixT (i := 0) (d := .int p2.1) rfl (ev_var rfl) (ev_var rfl)))) ?_) fun _ =>
        EvB.to (b' := false) (eb_T (ev_ge (ev_ixT (i := 1) (d := .int p1.2) rfl (ev_var rfl) (ev_var rfl)) (ev_ixT (i := 1) (d := .int p2.2) rfl (ev_var rfl) (ev_var rfl)))) ?_) rfl
      · rw [decide_eq_true hk.1]
        rfl
      · exact decide_eq_false (by omega)
end
end RN
end

section
set_option Elab.async false
set_option linter.all false
set_option maxRecDepth 100000
set_option maxHeartbeats 4000000
/-! RN_W3: rises, small rises. -/
namespace RN
open PySem PySem.Spec L2
def dTup : D → List D
  | .tup es => es
  | _ => []
section
variable {P : Program} {w : World} {K : PySem.W.Frag} {mg : Str → Option Value} {base : Heap} {CN : Addr} {f : Addr} {fd : FuncData}
theorem ok_is_rise (B : Bf mg) (C_is_near : Cal P w K mg base CX0 3 "is_near" ["value", "size"] (spNear CN)) (C_are_corners : Cal P w K mg base CX0 5 "are_corners" ["first", "value"] (spCorners CN)) (g : mg "is_rise" = some (.ref f))
    (F : FnP K "is_rise" s_is_rise f fd) : Cal P w K mg base CX0 6 "is_rise" ["value"] (spRise CN) := by
  refine cal_mk g F (fun _ _ _ _ _ _ us hl => match us, hl with | [_], _ => rfl) (fn_N _ _ _ F sc_is_rise (fun _ => rfl) fun cdv A outer s H E hr r hx => ?_)
  refine ⟨_, (pss_cons (ps_if (PW.pt (pw_or (pt_not (pt_val (pe_isi B.b_isinstance (pv 0) (pe_tyn (n := "tuple") B.b_tuple PyProof.Rows.boot_tuple)))) (pw_or (pt_cmpR op_ne (pe_len B.b_len (pv 0)) (pe_gint B.c_PAIR_rises) (nomark _)) (pw_or1 (pt_not (pt_val (pe_isi B.b_isinstance (pe_ix ix_tup (pv 0) pe_int (fun _ _ => rfl)) (pe_tyn (n := "str") B.b_str PyProof.Rows.boot_str)))))))) (pss_one (ps_ret pe_bl)) pss_nil) (pss_cons (ps_if (pt_cmpR op_in_seq (pe_ix ix_tup (pv 0) pe_int (fun _ _ => rfl)) (pe_tup (pa_cons (pe_gstr B.c_LEVEL) (pa_cons (pe_gstr B.c_PLUMB) pa_nil))) (by rfl)) (pss_one (ps_ret (pe_own C_is_near (hr.mono (by decide)) rfl pass0 (pa_cons (pe_ix ix_tup (pv 0) pe_int (fun _ _ => rfl)) (pa_cons (pe_gint B.c_FAR) pa_nil))))) pss_nil) (pss_one (ps_ret (pe_and (pe_cmpR op_in_seq (pe_ix ix_tup (pv 0) pe_int (fun _ _ => rfl)) (pe_tup (pa_cons (pe_gstr B.c_FLAT) (pa_cons (pe_gstr B.c_STEEP) pa_nil))) (by rfl)) (pe_one (pe_own C_are_corners (hr.mono (by decide)) rfl pass0 (pa_cons (pe_ix ix_tup (pv 0) pe_int (fun _ _ => rfl)) (pa_cons (pe_ix ix_tup (pv 0) pe_int (fun _ _ => rfl)) pa_nil))))))))), fun U => ?_⟩
  refine sv_guard (b := false) (EvB.to (eb_or (eb_not (eb_B (ev_isT (x := r.d) (ev_var rfl)))) fun _ => eb_or (eb_T (ev_neI (ev_lenT (ds := [.str r.word, r.told]) (ev_var rfl)) ev_int)) fun _ => eb_not (eb_B (ev_isS (ev_ixT (i := 0) (d := .str r.word) rfl (ev_var rfl) ev_int)))) rfl) (fun h => nomatch h) fun _ => ?_
  cases r with
  | lev y =>
    refine sv_guard (b := true) (EvB.to (eb_T (ev_op1 (ev_ixT (i := 0) (d := .str "level") rfl (ev_var rfl) ev_int) (ev_tup1 (ea_cons ev_str (ea_cons ev_str ea_nil))) (od_in (.inl rfl) rfl rfl))) (by decide)) (fun _ => ?_) (fun h => nomatch h)
    exact sv_ret1 (EvP.to (ev_callG (D.int y, 1000000000000000000) (ea_cons (ev_ixT (i := 1) (d := .int y) rfl (ev_var rfl) ev_int) (ea_cons ev_int ea_nil)) rfl) (congrArg D.bl (near_far hx))) rfl
  | plu y =>
    refine sv_guard (b := true) (EvB.to (eb_T (ev_op1 (ev_ixT (i := 0) (d := .str "plumb") rfl (ev_var rfl) ev_int) (ev_tup1 (ea_cons ev_str (ea_cons ev_str ea_nil))) (od_in (.inl rfl) rfl rfl))) (by decide)) (fun _ => ?_) (fun h => nomatch h)
    exact sv_ret1 (EvP.to (ev_callG (D.int y, 1000000000000000000) (ea_cons (ev_ixT (i := 1) (d := .int y) rfl (ev_var rfl) ev_int) (ea_cons ev_int ea_nil)) rfl) (congrArg D.bl (near_far hx))) rfl
  | cor fl cs =>
    refine sv_guard (b := false) (EvB.to (eb_T (ev_op1 (ev_ixT (i := 0) (d := .str (kS fl)) rfl (ev_var rfl) ev_int) (ev_tup1 (ea_cons ev_str (ea_cons ev_str ea_nil))) (od_in (.inl rfl) rfl rfl))) (by cases fl <;> decide)) (fun h => nomatch h) fun _ => ?_
    refine sv_ret1 (EvP.to (ev_andV (a := true) (b := true) (EvP.to (ev_op1 (ev_ixT (i := 0) (d := .str (kS fl)) rfl (ev_var rfl) ev_int) (ev_tup1 (ea_cons ev_str (ea_cons ev_str ea_nil))) (od_in (.inl rfl) rfl rfl)) ?_) fun _ => ?_) rfl) rfl
    · cases fl <;> exact congrArg D.bl (by decide)
    · exact ev_callG (fl, cs) (ea_cons (ev_ixT (i := 0) (d := .str (kS fl)) rfl (ev_var rfl) ev_int) (ea_cons (ev_ixT (i := 1) (d := .tup (cs.map ptD)) rfl (ev_var rfl) ev_int) ea_nil)) hx
theorem ok_is_small_rise (B : Bf mg) (C_is_near : Cal P w K mg base CX0 3 "is_near" ["value", "size"] (spNear CN)) (C_is_rise : Cal P w K mg base CX0 6 "is_rise" ["value"] (spRise CN)) (g : mg "is_small_rise" = some (.ref f))
    (F : FnP K "is_small_rise" s_is_small_rise f fd) : Cal P w K mg base CX0 7 "is_small_rise" ["value"] (spRise CN) := by
  refine cal_mk g F (fun _ _ _ _ _ _ us hl => match us, hl with | [_], _ => rfl) (fn_N _ _ _ F sc_is_small_rise (fun _ => rfl) fun cdv A outer s H E hr r hx => ?_)
  refine ⟨_, (pss_cons (ps_if (pt_not (pt_val (pe_own C_is_rise (hr.mono (by decide)) rfl pass0 (pa_cons (pv 0) pa_nil)))) (pss_one (ps_ret pe_bl)) pss_nil) (pss_cons (ps_if (pt_not (pt_val (pe_isi B.b_isinstance (pe_ix ix_tup (pv 0) pe_int (fun _ _ => rfl)) (pe_tyn (n := "tuple") B.b_tuple PyProof.Rows.boot_tuple)))) (pss_one (ps_ret (pe_own C_is_near (hr.mono (by decide)) rfl pass0 (pa_cons (pe_ix ix_tup (pv 0) pe_int (fun _ _ => rfl)) (pa_cons (pe_gint B.c_NEAR) pa_nil))))) pss_nil) (pss_one (ps_ret (pe_and (pe_cmpR op_le (pe_len B.b_len (pe_ix ix_tup (pv 0) pe_int (fun _ _ => rfl))) (pe_gint B.c_MOST_TURNS) (nomark _)) (pe_one (pe_all rfl B.b_all (pe_lc2 (own := [("corner", 1), ("one", 2)]) (vs1 := [2]) (g := (gName 1)) (wi1 := iTup K (tVar 1)) (g1 := (gName 2)) rfl sc_is_small_rise.nd (pi_tup (pe_ix ix_tup (pv 0) pe_int (fun _ _ => rfl))) (blkOk_by (own := [("corner", 1), ("one", 2)]) (N := n_is_small_rise) (sc := defScope s_is_small_rise) (by decide +kernel)) (by decide) (fun _ _ _ _ _ => (pg_name (i := 1) sc_is_small_rise.nd rfl (by first | exact Or.inl rfl | exact Or.inr rfl))) (fun _ _ _ _ _ => pts_nil) (fun _ _ _ _ _ => (pi_tup (pv 1))) (fun _ _ _ _ _ => (pg_name (i := 2) sc_is_small_rise.nd rfl (by first | exact Or.inl rfl | exact Or.inr rfl))) (fun _ _ _ _ _ => pts_nil) (fun _ _ _ _ _ => (pe_own C_is_near (hr.mono (by decide)) rfl pass0 (pa_cons (pv 2) (pa_cons (pe_gint B.c_NEAR) pa_nil)))))))))))), fun U => ?_⟩
  refine sv_guard (b := false) (EvB.to (eb_not (eb_B (ev_callG r (ea_cons (ev_var rfl) ea_nil) hx))) rfl) (fun h => nomatch h) fun _ => ?_
  cases r with
  | lev y =>
    refine sv_guard (b := true) (EvB.to (eb_not (eb_B (ev_isT (ev_ixT (i := 1) (d := .int y) rfl (ev_var rfl) ev_int)))) rfl) (fun _ => ?_) (fun h => nomatch h)
    exact sv_ret1 (EvP.to (ev_callG (D.int y, 1000000000000) (ea_cons (ev_ixT (i := 1) (d := .int y) rfl (ev_var rfl) ev_int) (ea_cons ev_int ea_nil)) rfl) (congrArg D.bl (near_near hx))) rfl
  | plu y =>
    refine sv_guard (b := true) (EvB.to (eb_not (eb_B (ev_isT (ev_ixT (i := 1) (d := .int y) rfl (ev_var rfl) ev_int)))) rfl) (fun _ => ?_) (fun h => nomatch h)
    exact sv_ret1 (EvP.to (ev_callG (D.int y, 1000000000000) (ea_cons (ev_ixT (i := 1) (d := .int y) rfl (ev_var rfl) ev_int) (ea_cons ev_int ea_nil)) rfl) (congrArg D.bl (near_near hx))) rfl
  | cor fl cs =>
    refine sv_guard (b := false) (EvB.to (eb_not (eb_B (ev_isT (ev_ixT (i := 1) (d := .tup (cs.map ptD)) rfl (ev_var rfl) ev_int)))) rfl) (fun h => nomatch h) fun _ => ?_
    replace hx : (Ri.cor fl cs).ok = true := hx
    unfold Ri.ok at hx
    rw [Bool.and_eq_true, Bool.and_eq_true, Bool.and_eq_true, decide_eq_true_eq, decide_eq_true_eq] at hx
    obtain ⟨⟨⟨h1, h2⟩, h3⟩, h4⟩ := hx
    have hlen : (cs.map ptD).length = cs.length := List.length_map ..
    have hfl : (cs.map ptD).flatMap (fun d => (dTup d).map fun (e : D) => D.bl (e.within (-1000000000000) 1000000000000)) = cs.flatMap fun p => [.bl true, .bl true] := by
      rw [List.flatMap_map]
      have : ∀ l : List (Int × Int), (l.all fun p => small p.1 && small p.2) = true → (l.flatMap fun a => (dTup (ptD a)).map fun (e : D) => D.bl (e.within (-1000000000000) 1000000000000)) = l.flatMap fun p => [.bl true, .bl true] := by
        intro l
        induction l with
        | nil => intro _; rfl
        | cons a l ih =>
          intro h
          rw [List.all_cons, Bool.and_eq_true, Bool.and_eq_true] at h
          rw [List.flatMap_cons, List.flatMap_cons, ih h.2]
          show [D.bl ((D.int a.1).within _ _), D.bl ((D.int a.2).within _ _)] ++ _ = _
          rw [near_near h.1.1, near_near h.1.2]
      exact this cs h3
    have hall : ∀ l : List (Int × Int), l.flatMap (fun p => [D.bl true, D.bl true]) = (List.replicate (2 * l.length) true).map D.bl := by
      intro l
      induction l with
      | nil => rfl
      | cons a l ih =>
        rw [List.flatMap_cons, ih, List.length_cons, Nat.mul_add]
        show _ = List.map D.bl (List.replicate (2 * l.length + 1 + 1) true)
        rw [List.replicate_succ, List.replicate_succ]
        rfl
    refine sv_ret1 (EvP.to (ev_andV (a := true) (b := true) (EvP.to (ev_le (ev_lenT (ev_ixT (i := 1) (d := .tup (cs.map ptD)) rfl (ev_var rfl) ev_int)) ev_int) (congrArg D.bl ?_)) fun _ => ?_) rfl) rfl
    · rw [hlen]
      exact decide_eq_true (by omega)
    · refine EvP.to (ev_all (bs := List.replicate (2 * cs.length) true) (EvP.to (ev_flat (es := dTup) (f := fun (e : D) => .bl (e.within (-1000000000000) 1000000000000)) (iv_tup (ev_ixT (i := 1) (d := .tup (cs.map ptD)) rfl (ev_var rfl) ev_int)) (wp_name (by decide)) (wp_name (by decide)) ?_ fun i d p acc hd => ?_) ?_)) ?_
      · rw [hfl, hall, List.length_map, List.length_replicate]
        omega
      · obtain ⟨q, hq, rfl⟩ := getMap hd
        refine gv_name ⟨rfl, iv_tup (ev_var rfl), fun j e ac1 he => gv_name ⟨rfl, ev_callG (e, 1000000000000) (ea_cons (ev_var rfl) (ea_cons ev_int ea_nil)) ?_⟩⟩
        match j, he with
        | 0, he => cases he; rfl
        | 1, he => cases he; rfl
      · rw [hfl, hall]
      · rw [List.all_replicate]
        split <;> rfl
end
end RN
end

section
set_option Elab.async false
set_option linter.all false
set_option maxRecDepth 100000
set_option maxHeartbeats 2000000
/-! RN_EZ: zip of two sequences (lists or tuples) whose pairs may stay out; enumerate of it. -/
namespace RN
open PySem PySem.Spec L2
/-- an iterator over a tuple (true) or a list (false) -/
def KI (k : Bool) (h : Heap) (it l : Addr) (i : Nat) : Prop := match k with
  | true => h.IsTupleIter it l i
  | false => h.IsListIter it l i
def KS (k : Bool) (h : Heap) (l : Addr) (xs : Array Value) : Prop := match k with
  | true => h.IsTuple l xs
  | false => h.IsList l xs
theorem KI.at' {k : Bool} {h h' : Heap} {it l : Addr} {i : Nat} (x : KI k h it l i) (e : ∀ o, h.get? it = some o → h'.get? it = some o) : KI k h' it l i := by
  cases k with
  | true => exact Heap.IsTupleIter.at x e
  | false => exact Heap.IsListIter.at x e
theorem KS.at' {k : Bool} {h h' : Heap} {l : Addr} {xs : Array Value} (x : KS k h l xs) (e : ∀ o, h.get? l = some o → h'.get? l = some o) : KS k h' l xs := by
  cases k with
  | true =>
    obtain ⟨o, h1, h2⟩ := (show h.IsTuple l xs from x)
    exact (⟨o, e o h1, h2⟩ : h'.IsTuple l xs)
  | false => exact Heap.IsList.at x e
theorem KI.got {k : Bool} {h : Heap} {it l : Addr} {i : Nat} (x : KI k h it l i) : ∃ o, h.get? it = some o ∧ ∀ v, o.data ≠ .cell v := by
  cases k with
  | true =>
    obtain ⟨o, h1, _, h2⟩ := (show h.IsTupleIter it l i from x)
    exact ⟨o, h1, fun v q => by rw [h2] at q; cases q⟩
  | false =>
    obtain ⟨o, h1, _, h2⟩ := (show h.IsListIter it l i from x)
    exact ⟨o, h1, fun v q => by rw [h2] at q; cases q⟩
section
variable {prog : Program} {w : World} {A : Around} {E : Value → Shared → Prop} {s : Shared}
theorem k_item {k : Bool} {it l : Addr} {i : Nat} {items : Array Value} {x : Value} {Q : Value → Shared → Prop} (hit : KI k s.heap it l i) (hl : KS k s.heap l items) (hx : items[i]? = some x)
    (hQ : ∀ h', KI k h' it l (i + 1) → Heap.SameBut it s.heap h' → Q x { s with heap := h' }) : wpAny (model prog w) A (Builtin.SmallTypes.nextOf (.ref it)) Q E s := by
  cases k with
  | true => exact RZ.nextOf_tuple_item hit hl hx hQ
  | false => exact wpAny_nextOf_list_item hit hl hx hQ
theorem k_end {k : Bool} {it l : Addr} {i : Nat} {items : Array Value} {Q : Value → Shared → Prop} (hh : A.handled = none) (hit : KI k s.heap it l i) (hl : KS k s.heap l items) (hx : items[i]? = none)
    (hE : ∀ h' e, Heap.ExtBut it s.heap h' → (∃ o, h'.get? e = some o ∧ o.cls = .type "StopIteration") → E (.ref e) { s with heap := h' }) : wpAny (model prog w) A (Builtin.SmallTypes.nextOf (.ref it)) Q E s := by
  cases k with
  | true => exact RZ.nextOf_tuple_end hh hit hl hx hE
  | false => exact wpAny_nextOf_list_end hh hit hl hx hE
/-- a zip's record; the tuple it gave out last may still be out -/
abbrev ZG (h : Heap) (z TI TO : Addr) (v : Value) (f : Bool) : Prop := h.get? z = some { cls := .type "zip", dict := none, data := .fields #[v, .bool f, .bool false, .ref TI, .ref TO], slots := #[] }
def ZS (h : Heap) (z TI TO : Addr) : Prop := ∃ v f, ZG h z TI TO v f ∧ (v = .none ∨ ∃ T : Addr, v = rawInt T)
theorem ZS.at' {h h' : Heap} {z TI TO : Addr} (x : ZS h z TI TO) (e : ∀ o, h.get? z = some o → h'.get? z = some o) : ZS h' z TI TO := by
  obtain ⟨v, f, h1, h2⟩ := x
  exact ⟨v, f, e _ h1, h2⟩
theorem zip_free {z TI TO : Addr} {v : Value} {f : Bool} {Q : Bool → Shared → Prop} (hz : ZG s.heap z TI TO v f) (hv : v = .none ∨ ∃ T : Addr, v = rawInt T) (h1 : Q true s)
    (h2 : ∀ h', ZS h' z TI TO → Heap.SameBut z s.heap h' → Q false { s with heap := h' }) : wpAny (model prog w) A (Builtin.SmallTypes.ownedTupleIsFree (.ref z)) Q E s := by
  unfold Builtin.SmallTypes.ownedTupleIsFree
  rcases hv with rfl | ⟨T, rfl⟩
  · exact wpAny_bind (wpAny_field hz rfl (x := .none) rfl (wpAny_pure h1))
  · refine wpAny_bind (wpAny_field hz rfl (x := rawInt T) rfl ?_)
    show wpAny _ _ (loadIfAlive ((T : Int).toNat) >>= _) _ _ _
    rw [Int.toNat_natCast]
    refine wpAny_bind (fun _ _ _ => show wpAny _ _ _ _ _ _ from ?_)
    cases q : s.heap.get? T with
    | none =>
      simp only [Option.isNone_none, if_true]
      exact wpAny_bind (wpAny_pure (wpAny_pure h1))
    | some o =>
      simp only [Option.isNone_some, Bool.false_eq_true, if_false]
      refine wpAny_bind (wpAny_field hz rfl (x := .bool f) rfl ?_)
      cases f with
      | true =>
        rw [if_neg (show ¬ ((Value.bool true != Value.bool true) = true) from Bool.false_ne_true)]
        exact wpAny_pure (h2 s.heap ⟨_, _, hz, .inr ⟨T, rfl⟩⟩ (Heap.SameBut.refl _ _))
      | false =>
        rw [if_pos (show (Value.bool false != Value.bool true) = true from rfl)]
        exact wpAny_bind (wpAny_setField_rec hz (by simp) fun h₁ hz₁ hs₁ => wpAny_pure (h2 h₁ ⟨_, true, hz₁, .inr ⟨T, rfl⟩⟩ hs₁))
theorem zs_item {z TI TO i1 i2 l1 l2 : Addr} {k1 k2 : Nat} {xs ys : Array Value} {x y a b : Value} {c1 c2 : Bool} {Q : Value → Shared → Prop} (D : ZipApart z TI TO i1 i2 l1 l2)
    (hz : ZS s.heap z TI TO) (hTI : IsPair s.heap TI (.ref i1) (.ref i2)) (hTO : IsPair s.heap TO a b)
    (h1 : KI c1 s.heap i1 l1 k1) (h2 : KI c2 s.heap i2 l2 k2) (hl1 : KS c1 s.heap l1 xs) (hl2 : KS c2 s.heap l2 ys) (hx : xs[k1]? = some x) (hy : ys[k2]? = some y)
    (hQ : ∀ h', ZS h' z TI TO → (∃ a b, IsPair h' TO a b) → KI c1 h' i1 l1 (k1 + 1) → KI c2 h' i2 l2 (k2 + 1) → IsPair h' s.heap.objs.size x y → h'.objs.size = s.heap.objs.size + 1 →
      (∀ c o, c ≠ z → c ≠ TO → c ≠ i1 → c ≠ i2 → s.heap.get? c = some o → h'.get? c = some o) → Q (.ref s.heap.objs.size) { s with heap := h' }) :
    wpAny (model prog w) A (Builtin.«zip.__next__» ⟨[.ref z], []⟩) (fun fin s' => ∃ v, fin = .done (.ret v) ∧ Q v s') E s := by
  obtain ⟨v, f, hz, hv⟩ := hz
  show wpAny _ _ (field (.ref z) 2 >>= _) _ _ _
  refine wpAny_bind (wpAny_field hz rfl (x := .bool false) rfl ?_)
  show wpAny _ _ (field (.ref z) 3 >>= _) _ _ _
  refine wpAny_bind (wpAny_field hz rfl (x := .ref TI) rfl ?_)
  refine wpAny_bind (wpAny_seqItems hTI rfl ?_)
  show wpAny _ _ (Builtin.SmallTypes.ownedTupleIsFree (.ref z) >>= _) _ _ _
  refine wpAny_bind (zip_free hz hv ?_ fun h₁ hz₁ hs₁ => ?_)
  · simp only [if_true]
    refine wpAny_bind (wpAny_rule ?_)
    refine wpAny_bind (wpAny_field hz rfl (x := .ref TO) rfl ?_)
    refine wpAny_bind (wpAny_setField_rec hz (by simp) fun h₁ hz₁ hs₁ => ?_)
    replace hz₁ : ZG h₁ z TI TO .ellipsis f := hz₁
    refine wpAny_bind ?_
    simp only [List.zipIdx_cons, List.zipIdx_nil, List.forIn_cons, List.forIn_nil]
    refine wpAny_bind (wpAny_bind (wpAny_onRaise ?_))
    show wpAny _ _ (Builtin.SmallTypes.nextOf (.ref i1) >>= _) _ _ _
    refine wpAny_bind (k_item (s := { s with heap := h₁ }) (h1.at' fun o => hs₁.extBut _ o D.i1z) (hl1.at' fun o => hs₁.extBut _ o D.l1z) hx fun h₂ h1₂ hs₂ => wpAny_pure ?_)
    have hTO₂ : IsPair h₂ TO a b := hs₂.extBut _ _ D.TOi1 (hs₁.extBut _ _ D.TOz hTO)
    refine wpAny_bind (wpAny_seqItems hTO₂ rfl ?_)
    refine wpAny_bind (wpAny_updateSeq_pair hTO₂ fun h₃ hTO₃ hs₃ => ?_)
    replace hTO₃ : IsPair h₃ TO x b := hTO₃
    refine wpAny_bind (wpAny_letGo (wpAny_pure ?_))
    refine wpAny_bind (wpAny_bind (wpAny_onRaise ?_))
    show wpAny _ _ (Builtin.SmallTypes.nextOf (.ref i2) >>= _) _ _ _
    refine wpAny_bind (k_item (s := { s with heap := h₃ }) (((h2.at' fun o => hs₁.extBut _ o D.i2z).at' fun o => hs₂.extBut _ o D.i12.symm).at' fun o => hs₃.extBut _ o D.TOi2.symm)
      (((hl2.at' fun o => hs₁.extBut _ o D.l2z).at' fun o => hs₂.extBut _ o D.l2i1).at' fun o => hs₃.extBut _ o D.l2TO) hy fun h₄ h2₄ hs₄ => wpAny_pure ?_)
    have hTO₄ : IsPair h₄ TO x b := hs₄.extBut _ _ D.TOi2 hTO₃
    refine wpAny_bind (wpAny_seqItems hTO₄ rfl ?_)
    refine wpAny_bind (wpAny_updateSeq_pair hTO₄ fun h₅ hTO₅ hs₅ => ?_)
    replace hTO₅ : IsPair h₅ TO x y := hTO₅
    refine wpAny_bind (wpAny_letGo (wpAny_pure (wpAny_pure ?_)))
    refine wpAny_bind (wpAny_seqItems hTO₅ rfl ?_)
    refine wpAny_bind (wpAny_newTuple ?_)
    have hsz : h₅.objs.size = s.heap.objs.size := by rw [hs₅.1, hs₄.1, hs₃.1, hs₂.1, hs₁.1]
    have hz₅ : ZG h₅ z TI TO .ellipsis f := hs₅.extBut _ _ D.TOz.symm (hs₄.extBut _ _ D.i2z.symm (hs₃.extBut _ _ D.TOz.symm (hs₂.extBut _ _ D.i1z.symm hz₁)))
    have hk₅ : ∀ c o, c ≠ z → c ≠ TO → c ≠ i1 → c ≠ i2 → s.heap.get? c = some o → h₅.get? c = some o := fun c o c1 c2 c3 c4 e =>
      hs₅.extBut _ _ c2 (hs₄.extBut _ _ c4 (hs₃.extBut _ _ c2 (hs₂.extBut _ _ c3 (hs₁.extBut _ _ c1 e))))
    have h1₅ : KI c1 h₅ i1 l1 (k1 + 1) := ((h1₂.at' fun o => hs₃.extBut _ o D.TOi1.symm).at' fun o => hs₄.extBut _ o D.i12).at' fun o => hs₅.extBut _ o D.TOi1.symm
    have h2₅ : KI c2 h₅ i2 l2 (k2 + 1) := h2₄.at' fun o => hs₅.extBut _ o D.TOi2.symm
    have hzlt : z < h₅.objs.size := Heap.lt_size hz₅
    show wpAny _ _ (Builtin.SmallTypes.ownedTupleHandOut (.ref z) (.ref h₅.objs.size) >>= _) _ _ _
    refine wpAny_bind ?_
    unfold Builtin.SmallTypes.ownedTupleHandOut
    have hz₆ : ZG (h₅.push { cls := .type "tuple", data := .seq #[x, y] }) z TI TO .ellipsis f := Heap.get?_push_of_some _ hz₅
    refine wpAny_bind (wpAny_setField_rec hz₆ (by simp) fun h₇ hz₇ hs₇ => ?_)
    replace hz₇ : ZG h₇ z TI TO (rawInt h₅.objs.size) f := hz₇
    refine wpAny_setField_rec hz₇ (by simp) fun h₈ hz₈ hs₈ => ?_
    replace hz₈ : ZG h₈ z TI TO (rawInt h₅.objs.size) false := hz₈
    have up : ∀ c o, c ≠ z → h₅.get? c = some o → h₈.get? c = some o := fun c o c1 e => hs₈.extBut _ _ c1 (hs₇.extBut _ _ c1 (Heap.get?_push_of_some _ e))
    have hT₈ : IsPair h₈ h₅.objs.size x y := hs₈.extBut _ _ (Nat.ne_of_gt hzlt) (hs₇.extBut _ _ (Nat.ne_of_gt hzlt) (Heap.get?_push_size _ rfl))
    have hz8 : h₈.objs.size = h₅.objs.size + 1 := by rw [hs₈.1, hs₇.1, Heap.size_push]
    refine wpAny_pure ⟨_, rfl, ?_⟩
    show Q (.ref h₅.objs.size) _
    rw [hsz] at hT₈ hz8 ⊢
    exact hQ h₈ ⟨_, _, hz₈, .inr ⟨_, rfl⟩⟩ ⟨_, _, up _ _ D.TOz hTO₅⟩ (h1₅.at' fun o e => up _ o D.i1z e) (h2₅.at' fun o e => up _ o D.i2z e) hT₈ hz8 fun c o c1 c2 c3 c4 e => up c o c1 (hk₅ c o c1 c2 c3 c4 e)
  · simp only [Bool.false_eq_true, if_false]
    refine wpAny_bind ?_
    rw [← Array.forIn_toList]
    simp only [List.forIn_cons, List.forIn_nil]
    refine wpAny_bind (wpAny_bind (wpAny_holding ?_))
    show wpAny _ _ (Builtin.SmallTypes.nextOf (.ref i1) >>= _) _ _ _
    refine wpAny_bind (k_item (s := { s with heap := h₁ }) (h1.at' fun o => hs₁.extBut _ o D.i1z) (hl1.at' fun o => hs₁.extBut _ o D.l1z) hx fun h₂ h1₂ hs₂ => wpAny_pure ?_)
    refine wpAny_pure ?_
    refine wpAny_bind (wpAny_bind (wpAny_holding ?_))
    show wpAny _ _ (Builtin.SmallTypes.nextOf (.ref i2) >>= _) _ _ _
    refine wpAny_bind (k_item (s := { s with heap := h₂ }) ((h2.at' fun o => hs₁.extBut _ o D.i2z).at' fun o => hs₂.extBut _ o D.i12.symm) ((hl2.at' fun o => hs₁.extBut _ o D.l2z).at' fun o => hs₂.extBut _ o D.l2i1) hy fun h₃ h2₃ hs₃ => wpAny_pure ?_)
    refine wpAny_pure (wpAny_pure ?_)
    show wpAny _ _ (newTuple [x, y] >>= _) _ _ _
    refine wpAny_bind (wpAny_newTuple ?_)
    have hsz : h₃.objs.size = s.heap.objs.size := by rw [hs₃.1, hs₂.1, hs₁.1]
    have hz₃ : ZS h₃ z TI TO := (hz₁.at' fun o => hs₂.extBut _ o D.i1z.symm).at' fun o => hs₃.extBut _ o D.i2z.symm
    have hk : ∀ c o, c ≠ z → c ≠ i1 → c ≠ i2 → s.heap.get? c = some o → h₃.get? c = some o := fun c o c1 c2 c3 e => hs₃.extBut _ _ c3 (hs₂.extBut _ _ c2 (hs₁.extBut _ _ c1 e))
    have h1₃ : KI c1 h₃ i1 l1 (k1 + 1) := h1₂.at' fun o => hs₃.extBut _ o D.i12
    refine wpAny_pure ⟨_, rfl, ?_⟩
    show Q (.ref h₃.objs.size) _
    have hp : IsPair (h₃.push { cls := .type "tuple", data := .seq #[x, y] }) h₃.objs.size x y := Heap.get?_push_size _ rfl
    have hz4 : (h₃.push { cls := .type "tuple", data := .seq #[x, y] }).objs.size = h₃.objs.size + 1 := Heap.size_push ..
    rw [hsz] at hp hz4 ⊢
    exact hQ _ (hz₃.at' fun o e => Heap.get?_push_of_some _ e) ⟨a, b, Heap.get?_push_of_some _ (hk _ _ D.TOz D.TOi1 D.TOi2 hTO)⟩ (h1₃.at' fun o e => Heap.get?_push_of_some _ e) (h2₃.at' fun o e => Heap.get?_push_of_some _ e) hp hz4 fun c o c1 c2 c3 c4 e => Heap.get?_push_of_some _ (hk c o c1 c3 c4 e)
theorem zs_end {z TI TO i1 i2 l1 l2 : Addr} {k1 k2 : Nat} {xs ys : Array Value} {a b : Value} {c1 c2 : Bool} {Q : Fin → Shared → Prop} (hh : A.handled = none) (D : ZipApart z TI TO i1 i2 l1 l2)
    (hz : ZS s.heap z TI TO) (hTI : IsPair s.heap TI (.ref i1) (.ref i2)) (hTO : IsPair s.heap TO a b)
    (h1 : KI c1 s.heap i1 l1 k1) (h2 : KI c2 s.heap i2 l2 k2) (hl1 : KS c1 s.heap l1 xs) (hl2 : KS c2 s.heap l2 ys) (hend : xs[k1]? = none ∨ ys[k2]? = none)
    (hE : ∀ h' e, (∀ c o, c ≠ z → c ≠ TO → c ≠ i1 → c ≠ i2 → s.heap.get? c = some o → h'.get? c = some o) → (∃ o, h'.get? e = some o ∧ o.cls = .type "StopIteration") → E (.ref e) { s with heap := h' }) :
    wpAny (model prog w) A (Builtin.«zip.__next__» ⟨[.ref z], []⟩) Q E s := by
  obtain ⟨v, f, hz, hv⟩ := hz
  show wpAny _ _ (field (.ref z) 2 >>= _) _ _ _
  refine wpAny_bind (wpAny_field hz rfl (x := .bool false) rfl ?_)
  show wpAny _ _ (field (.ref z) 3 >>= _) _ _ _
  refine wpAny_bind (wpAny_field hz rfl (x := .ref TI) rfl ?_)
  refine wpAny_bind (wpAny_seqItems hTI rfl ?_)
  show wpAny _ _ (Builtin.SmallTypes.ownedTupleIsFree (.ref z) >>= _) _ _ _
  refine wpAny_bind (zip_free hz hv ?_ fun h₁ hz₁ hs₁ => ?_)
  · simp only [if_true]
    refine wpAny_bind (wpAny_rule ?_)
    refine wpAny_bind (wpAny_field hz rfl (x := .ref TO) rfl ?_)
    refine wpAny_bind (wpAny_setField_rec hz (by simp) fun h₁ hz₁ hs₁ => ?_)
    replace hz₁ : ZG h₁ z TI TO .ellipsis f := hz₁
    refine wpAny_bind ?_
    simp only [List.zipIdx_cons, List.zipIdx_nil, List.forIn_cons, List.forIn_nil]
    refine wpAny_bind (wpAny_bind (wpAny_onRaise ?_))
    show wpAny _ _ (Builtin.SmallTypes.nextOf (.ref i1) >>= _) _ _ _
    cases hx : xs[k1]? with
    | none =>
      refine wpAny_bind (k_end (s := { s with heap := h₁ }) hh (h1.at' fun o => hs₁.extBut _ o D.i1z) (hl1.at' fun o => hs₁.extBut _ o D.l1z) hx fun h₂ e hs₂ he => ?_)
      obtain ⟨oe, hoe, hce⟩ := he
      have hz₂ : ZG h₂ z TI TO .ellipsis f := hs₂ _ _ D.i1z.symm hz₁
      have hez : e ≠ z := fun x => by subst x; rw [hz₂] at hoe; cases hoe; simp at hce
      refine wpAny_setField_rec hz₂ (by simp) fun h₃ _ hs₃ => hE h₃ e (fun c o c1 _ c3 _ x => hs₃.extBut _ _ c1 (hs₂ _ _ c3 (hs₁.extBut _ _ c1 x))) ⟨oe, hs₃.extBut _ _ hez hoe, hce⟩
    | some x =>
      have hy : ys[k2]? = none := by rcases hend with h | h; rw [hx] at h; cases h; exact h
      refine wpAny_bind (k_item (s := { s with heap := h₁ }) (h1.at' fun o => hs₁.extBut _ o D.i1z) (hl1.at' fun o => hs₁.extBut _ o D.l1z) hx fun h₂ h1₂ hs₂ => wpAny_pure ?_)
      have hTO₂ : IsPair h₂ TO a b := hs₂.extBut _ _ D.TOi1 (hs₁.extBut _ _ D.TOz hTO)
      refine wpAny_bind (wpAny_seqItems hTO₂ rfl ?_)
      refine wpAny_bind (wpAny_updateSeq_pair hTO₂ fun h₃ hTO₃ hs₃ => ?_)
      refine wpAny_bind (wpAny_letGo (wpAny_pure ?_))
      refine wpAny_bind (wpAny_bind (wpAny_onRaise ?_))
      show wpAny _ _ (Builtin.SmallTypes.nextOf (.ref i2) >>= _) _ _ _
      refine wpAny_bind (k_end (s := { s with heap := h₃ }) hh (((h2.at' fun o => hs₁.extBut _ o D.i2z).at' fun o => hs₂.extBut _ o D.i12.symm).at' fun o => hs₃.extBut _ o D.TOi2.symm)
        (((hl2.at' fun o => hs₁.extBut _ o D.l2z).at' fun o => hs₂.extBut _ o D.l2i1).at' fun o => hs₃.extBut _ o D.l2TO) hy fun h₄ e hs₄ he => ?_)
      obtain ⟨oe, hoe, hce⟩ := he
      have hz₄ : ZG h₄ z TI TO .ellipsis f := hs₄ _ _ D.i2z.symm (hs₃.extBut _ _ D.TOz.symm (hs₂.extBut _ _ D.i1z.symm hz₁))
      have hez : e ≠ z := fun x => by subst x; rw [hz₄] at hoe; cases hoe; simp at hce
      refine wpAny_setField_rec hz₄ (by simp) fun h₅ _ hs₅ => hE h₅ e (fun c o c1 c2 c3 c4 x => hs₅.extBut _ _ c1 (hs₄ _ _ c4 (hs₃.extBut _ _ c2 (hs₂.extBut _ _ c3 (hs₁.extBut _ _ c1 x))))) ⟨oe, hs₅.extBut _ _ hez hoe, hce⟩
  · simp only [Bool.false_eq_true, if_false]
    refine wpAny_bind ?_
    rw [← Array.forIn_toList]
    simp only [List.forIn_cons, List.forIn_nil]
    refine wpAny_bind (wpAny_bind (wpAny_holding ?_))
    show wpAny _ _ (Builtin.SmallTypes.nextOf (.ref i1) >>= _) _ _ _
    cases hx : xs[k1]? with
    | none =>
      refine wpAny_bind (k_end (s := { s with heap := h₁ }) hh (h1.at' fun o => hs₁.extBut _ o D.i1z) (hl1.at' fun o => hs₁.extBut _ o D.l1z) hx fun h₂ e hs₂ he => ?_)
      exact hE h₂ e (fun c o c1 _ c2 _ x => hs₂ _ _ c2 (hs₁.extBut _ _ c1 x)) he
    | some x =>
      have hy : ys[k2]? = none := by rcases hend with h | h; rw [hx] at h; cases h; exact h
      refine wpAny_bind (k_item (s := { s with heap := h₁ }) (h1.at' fun o => hs₁.extBut _ o D.i1z) (hl1.at' fun o => hs₁.extBut _ o D.l1z) hx fun h₂ h1₂ hs₂ => wpAny_pure ?_)
      refine wpAny_pure ?_
      refine wpAny_bind (wpAny_bind (wpAny_holding ?_))
      show wpAny _ _ (Builtin.SmallTypes.nextOf (.ref i2) >>= _) _ _ _
      refine wpAny_bind (k_end (s := { s with heap := h₂ }) hh ((h2.at' fun o => hs₁.extBut _ o D.i2z).at' fun o => hs₂.extBut _ o D.i12.symm) ((hl2.at' fun o => hs₁.extBut _ o D.l2z).at' fun o => hs₂.extBut _ o D.l2i1) hy fun h₃ e hs₃ he => ?_)
      exact hE h₃ e (fun c o c1 _ c3 c4 x => hs₃ _ _ c4 (hs₂.extBut _ _ c3 (hs₁.extBut _ _ c1 x))) he
/-- next of a zip, as another iterator asks for it -/
theorem zs_next {z TI TO i1 i2 l1 l2 : Addr} {k1 k2 : Nat} {xs ys : Array Value} {x y a b : Value} {c1 c2 : Bool} {Q : Value → Shared → Prop} (D : ZipApart z TI TO i1 i2 l1 l2)
    (hz : ZS s.heap z TI TO) (hTI : IsPair s.heap TI (.ref i1) (.ref i2)) (hTO : IsPair s.heap TO a b)
    (h1 : KI c1 s.heap i1 l1 k1) (h2 : KI c2 s.heap i2 l2 k2) (hl1 : KS c1 s.heap l1 xs) (hl2 : KS c2 s.heap l2 ys) (hx : xs[k1]? = some x) (hy : ys[k2]? = some y)
    (hQ : ∀ h', ZS h' z TI TO → (∃ a b, IsPair h' TO a b) → KI c1 h' i1 l1 (k1 + 1) → KI c2 h' i2 l2 (k2 + 1) → IsPair h' s.heap.objs.size x y → h'.objs.size = s.heap.objs.size + 1 →
      (∀ c o, c ≠ z → c ≠ TO → c ≠ i1 → c ≠ i2 → s.heap.get? c = some o → h'.get? c = some o) → Q (.ref s.heap.objs.size) { s with heap := h' }) :
    wpAny (model prog w) A (Builtin.SmallTypes.nextOf (.ref z)) Q E s := by
  have hT : s.TypeIs (.ref z) "zip" := by
    obtain ⟨v, f, hz, _⟩ := hz
    exact ⟨_, hz, rfl⟩
  unfold Builtin.SmallTypes.nextOf
  exact wpAny_bind (wpAny_callSpecial?_slot (name := Str.ofString "__next__") hT F.slot_zip_next
    (wpAny_call_entry F.slot_zip_next hT F.entry_zip_next (zs_item D hz hTI hTO h1 h2 hl1 hl2 hx hy fun h' a1 a2 a3 a4 a5 a6 a7 => wpAny_pure (hQ h' a1 a2 a3 a4 a5 a6 a7)) (F.args_zip_next_1 _)))
theorem zs_stop {z TI TO i1 i2 l1 l2 : Addr} {k1 k2 : Nat} {xs ys : Array Value} {a b : Value} {c1 c2 : Bool} {Q : Value → Shared → Prop} (hh : A.handled = none) (D : ZipApart z TI TO i1 i2 l1 l2)
    (hz : ZS s.heap z TI TO) (hTI : IsPair s.heap TI (.ref i1) (.ref i2)) (hTO : IsPair s.heap TO a b)
    (h1 : KI c1 s.heap i1 l1 k1) (h2 : KI c2 s.heap i2 l2 k2) (hl1 : KS c1 s.heap l1 xs) (hl2 : KS c2 s.heap l2 ys) (hend : xs[k1]? = none ∨ ys[k2]? = none)
    (hE : ∀ h' e, (∀ c o, c ≠ z → c ≠ TO → c ≠ i1 → c ≠ i2 → s.heap.get? c = some o → h'.get? c = some o) → (∃ o, h'.get? e = some o ∧ o.cls = .type "StopIteration") → E (.ref e) { s with heap := h' }) :
    wpAny (model prog w) A (Builtin.SmallTypes.nextOf (.ref z)) Q E s := by
  have hT : s.TypeIs (.ref z) "zip" := by
    obtain ⟨v, f, hz, _⟩ := hz
    exact ⟨_, hz, rfl⟩
  unfold Builtin.SmallTypes.nextOf
  exact wpAny_bind (wpAny_callSpecial?_slot (name := Str.ofString "__next__") hT F.slot_zip_next
    (wpAny_call_entry F.slot_zip_next hT F.entry_zip_next (zs_end hh D hz hTI hTO h1 h2 hl1 hl2 hend hE) (F.args_zip_next_1 _)))
theorem ez_item {e z TI TO i1 i2 l1 l2 : Addr} {k1 k2 : Nat} {c : Int} {xs ys : Array Value} {x y a b old : Value} {c1 c2 : Bool} {Q : Value → Shared → Prop} (D : ZipApart z TI TO i1 i2 l1 l2)
    (he : IsEnum s.heap e z c old) (ez : e ≠ z) (eO : e ≠ TO) (e1 : e ≠ i1) (e2 : e ≠ i2)
    (hz : ZS s.heap z TI TO) (hTI : IsPair s.heap TI (.ref i1) (.ref i2)) (hTO : IsPair s.heap TO a b)
    (h1 : KI c1 s.heap i1 l1 k1) (h2 : KI c2 s.heap i2 l2 k2) (hl1 : KS c1 s.heap l1 xs) (hl2 : KS c2 s.heap l2 ys) (hx : xs[k1]? = some x) (hy : ys[k2]? = some y)
    (hQ : ∀ hm h' tk, hm.objs.size = s.heap.objs.size + 1 → IsPair hm s.heap.objs.size x y → (∀ c o, c ≠ z → c ≠ TO → c ≠ i1 → c ≠ i2 → s.heap.get? c = some o → hm.get? c = some o) →
      (∀ c o, c ≠ e → hm.get? c = some o → h'.get? c = some o) → IsEnumOut h' e z (c + 1) (.ref s.heap.objs.size) (s.heap.objs.size + 1) →
      h'.get? (s.heap.objs.size + 1) = some { cls := .type "tuple", data := .seq #[.int c tk, .ref s.heap.objs.size] } → h'.objs.size = s.heap.objs.size + 2 →
      ZS hm z TI TO → (∃ a b, IsPair hm TO a b) → KI c1 hm i1 l1 (k1 + 1) → KI c2 hm i2 l2 (k2 + 1) → Q (.ref (s.heap.objs.size + 1)) { s with heap := h', toks := tk + 1 }) :
    wpAny (model prog w) A (Builtin.«enumerate.__next__» ⟨[.ref e], []⟩) (fun fin s' => ∃ v, fin = .done (.ret v) ∧ Q v s') E s := by
  obtain ⟨hp, g, d, tk, os⟩ := s
  show wpAny _ _ (field (.ref e) 2 >>= _) _ _ _
  refine wpAny_bind (wpAny_field he rfl (x := .ref z) rfl ?_)
  refine wpAny_bind (zs_next D hz hTI hTO h1 h2 hl1 hl2 hx hy fun h₁ a1 a2 a3 a4 a5 a6 a7 => ?_)
  have he₁ : IsEnum h₁ e z c old := a7 _ _ ez eO e1 e2 he
  show wpAny _ _ (field (.ref e) 3 >>= _) _ _ ⟨h₁, g, d, tk, os⟩
  refine wpAny_bind (wpAny_field he₁ rfl (x := rawInt c) rfl ?_)
  show wpAny _ _ (field (.ref e) 4 >>= _) _ _ ⟨h₁, g, d, tk, os⟩
  refine wpAny_bind (wpAny_field he₁ rfl (x := .none) rfl ?_)
  show wpAny _ _ (mkInt c >>= _) _ _ ⟨h₁, g, d, tk, os⟩
  refine wpAny_bind (wpAny_mkInt ?_)
  show wpAny _ _ (setField (.ref e) 3 (rawInt (c + 1)) >>= _) _ _ ⟨h₁, g, d, tk + 1, os⟩
  refine wpAny_bind (wpAny_setField_rec he₁ (by simp) fun h₂ he₂ hs₂ => ?_)
  replace hs₂ : Heap.SameBut e h₁ h₂ := hs₂
  replace he₂ : IsEnum h₂ e z (c + 1) old := he₂
  show wpAny _ _ (setField (.ref e) 4 .none >>= _) _ _ ⟨h₂, g, d, tk + 1, os⟩
  refine wpAny_bind (wpAny_setField_rec he₂ (by simp) fun h₃ he₃ hs₃ => ?_)
  replace hs₃ : Heap.SameBut e h₂ h₃ := hs₃
  replace he₃ : IsEnum h₃ e z (c + 1) old := he₃
  show wpAny _ _ (newTuple [.int c tk, .ref hp.objs.size] >>= _) _ _ ⟨h₃, g, d, tk + 1, os⟩
  refine wpAny_bind (wpAny_newTuple ?_)
  have he₄ : IsEnum (h₃.push { cls := .type "tuple", data := .seq #[.int c tk, .ref hp.objs.size] }) e z (c + 1) old := Heap.get?_push_of_some _ he₃
  generalize hh₄ : h₃.push { cls := .type "tuple", data := .seq #[.int c tk, .ref hp.objs.size] } = h₄ at he₄
  have a6' : h₁.objs.size = hp.objs.size + 1 := a6
  have hsz : h₃.objs.size = hp.objs.size + 1 := by rw [hs₃.1, hs₂.1, a6']
  have hel : e < hp.objs.size := Heap.lt_size he
  have hel1 : hp.objs.size + 1 ≠ e := Nat.ne_of_gt (Nat.lt_succ_of_lt hel)
  have ht₄ : h₄.get? (hp.objs.size + 1) = some { cls := .type "tuple", data := .seq #[.int c tk, .ref hp.objs.size] } := by rw [← hh₄, ← hsz]; exact Heap.get?_push_size _ rfl
  have hz₄ : h₄.objs.size = hp.objs.size + 2 := by rw [← hh₄, Heap.size_push, hsz]
  have hk₄ : ∀ b o, b ≠ e → h₁.get? b = some o → h₄.get? b = some o := fun b o hbe hb => by
    rw [← hh₄]; exact Heap.get?_push_of_some _ (hs₃.extBut b o hbe (hs₂.extBut b o hbe hb))
  show wpAny _ _ (Builtin.SmallTypes.ownedTupleIsFree (.ref e) >>= _) _ _ ⟨h₄, g, d, tk + 1, os⟩
  rw [hsz]
  clear hh₄ he₃ hs₃ he₂ hs₂ hsz h₃ h₂
  refine wpAny_bind ?_
  unfold Builtin.SmallTypes.ownedTupleIsFree
  refine wpAny_bind (wpAny_field he₄ rfl (x := .none) rfl (wpAny_pure ?_))
  simp only [if_true]
  refine wpAny_bind (wpAny_rule ?_)
  refine wpAny_bind (wpAny_field he₄ rfl (x := old) rfl ?_)
  refine wpAny_bind (wpAny_setField_rec he₄ (by simp) fun h₅ he₅ hs₅ => ?_)
  replace hs₅ : Heap.SameBut e h₄ h₅ := hs₅
  replace he₅ : IsEnum h₅ e z (c + 1) (.ref hp.objs.size) := he₅
  show wpAny _ _ (Builtin.SmallTypes.ownedTupleHandOut (.ref e) (.ref (hp.objs.size + 1)) >>= _) _ _ ⟨h₅, g, d, tk + 1, os⟩
  refine wpAny_bind ?_
  unfold Builtin.SmallTypes.ownedTupleHandOut
  refine wpAny_bind (wpAny_setField_rec he₅ (by simp) fun h₆ he₆ hs₆ => ?_)
  replace hs₆ : Heap.SameBut e h₅ h₆ := hs₆
  replace he₆ : IsEnumOut h₆ e z (c + 1) (.ref hp.objs.size) (hp.objs.size + 1) := he₆
  refine wpAny_setField_rec he₆ (by simp) fun h₇ he₇ hs₇ => ?_
  replace hs₇ : Heap.SameBut e h₆ h₇ := hs₇
  replace he₇ : IsEnumOut h₇ e z (c + 1) (.ref hp.objs.size) (hp.objs.size + 1) := he₇
  refine wpAny_bind (wpAny_letGo (wpAny_pure ⟨_, rfl, hQ h₁ h₇ tk a6' a5 a7 (fun b o hbe hb => hs₇.extBut b o hbe (hs₆.extBut b o hbe (hs₅.extBut b o hbe (hk₄ b o hbe hb)))) he₇ ?_ ?_ a1 a2 a3 a4⟩))
  · exact hs₇.extBut _ _ hel1 (hs₆.extBut _ _ hel1 (hs₅.extBut _ _ hel1 ht₄))
  · rw [hs₇.1, hs₆.1, hs₅.1, hz₄]
theorem ez_pyNext {e z TI TO i1 i2 l1 l2 : Addr} {k1 k2 : Nat} {c : Int} {xs ys : Array Value} {x y a b old : Value} {c1 c2 : Bool} {Q : Option Value → Shared → Prop} (D : ZipApart z TI TO i1 i2 l1 l2)
    (he : IsEnum s.heap e z c old) (ez : e ≠ z) (eO : e ≠ TO) (e1 : e ≠ i1) (e2 : e ≠ i2)
    (hz : ZS s.heap z TI TO) (hTI : IsPair s.heap TI (.ref i1) (.ref i2)) (hTO : IsPair s.heap TO a b)
    (h1 : KI c1 s.heap i1 l1 k1) (h2 : KI c2 s.heap i2 l2 k2) (hl1 : KS c1 s.heap l1 xs) (hl2 : KS c2 s.heap l2 ys) (hx : xs[k1]? = some x) (hy : ys[k2]? = some y)
    (hQ : ∀ hm h' tk, hm.objs.size = s.heap.objs.size + 1 → IsPair hm s.heap.objs.size x y → (∀ c o, c ≠ z → c ≠ TO → c ≠ i1 → c ≠ i2 → s.heap.get? c = some o → hm.get? c = some o) →
      (∀ c o, c ≠ e → hm.get? c = some o → h'.get? c = some o) → IsEnumOut h' e z (c + 1) (.ref s.heap.objs.size) (s.heap.objs.size + 1) →
      h'.get? (s.heap.objs.size + 1) = some { cls := .type "tuple", data := .seq #[.int c tk, .ref s.heap.objs.size] } → h'.objs.size = s.heap.objs.size + 2 →
      ZS hm z TI TO → (∃ a b, IsPair hm TO a b) → KI c1 hm i1 l1 (k1 + 1) → KI c2 hm i2 l2 (k2 + 1) → Q (some (.ref (s.heap.objs.size + 1))) { s with heap := h', toks := tk + 1 }) :
    wpAny (model prog w) A (pyNext (.ref e)) Q E s := by
  have hT : s.TypeIs (.ref e) "enumerate" := ⟨_, he, rfl⟩
  unfold pyNext
  exact wpAny_bind (wpAny_attempt (wpAny_callSpecial?_slot (name := Str.ofString "__next__") hT F.slot_enumerate_next
    (wpAny_call_entry F.slot_enumerate_next hT F.entry_enumerate_next
      (ez_item D he ez eO e1 e2 hz hTI hTO h1 h2 hl1 hl2 hx hy fun hm h' tk a1 a2 a3 a4 a5 a6 a7 a8 a9 b1 b2 => wpAny_pure (hQ hm h' tk a1 a2 a3 a4 a5 a6 a7 a8 a9 b1 b2)) (F.args_enumerate_next_1 _))))
theorem ez_pyEnd {e z TI TO i1 i2 l1 l2 : Addr} {k1 k2 : Nat} {c : Int} {xs ys : Array Value} {a b old : Value} {c1 c2 : Bool} {Q : Option Value → Shared → Prop} (hh : A.handled = none) (D : ZipApart z TI TO i1 i2 l1 l2)
    (he : IsEnum s.heap e z c old)
    (hz : ZS s.heap z TI TO) (hTI : IsPair s.heap TI (.ref i1) (.ref i2)) (hTO : IsPair s.heap TO a b)
    (h1 : KI c1 s.heap i1 l1 k1) (h2 : KI c2 s.heap i2 l2 k2) (hl1 : KS c1 s.heap l1 xs) (hl2 : KS c2 s.heap l2 ys) (hend : xs[k1]? = none ∨ ys[k2]? = none)
    (hQ : ∀ h', (∀ c o, c ≠ z → c ≠ TO → c ≠ i1 → c ≠ i2 → s.heap.get? c = some o → h'.get? c = some o) → Q none { s with heap := h' }) : wpAny (model prog w) A (pyNext (.ref e)) Q E s := by
  have hT : s.TypeIs (.ref e) "enumerate" := ⟨_, he, rfl⟩
  unfold pyNext
  refine wpAny_bind (wpAny_attempt (wpAny_callSpecial?_slot (name := Str.ofString "__next__") hT F.slot_enumerate_next
    (wpAny_call_entry F.slot_enumerate_next hT F.entry_enumerate_next ?_ (F.args_enumerate_next_1 _))))
  show wpAny _ _ (field (.ref e) 2 >>= _) _ _ _
  refine wpAny_bind (wpAny_field he rfl (x := .ref z) rfl ?_)
  refine wpAny_bind (zs_stop hh D hz hTI hTO h1 h2 hl1 hl2 hend fun h' x hk he' => ?_)
  obtain ⟨o, ho, hc⟩ := he'
  refine wpAny_bind (wpAny_isInstance (T := "StopIteration") (b := true) ⟨o, ho, hc⟩ isSubtype_stop ?_)
  exact wpAny_pure (hQ _ hk)
theorem zs_pyNext {z TI TO i1 i2 l1 l2 : Addr} {k1 k2 : Nat} {xs ys : Array Value} {x y a b : Value} {c1 c2 : Bool} {Q : Option Value → Shared → Prop} (D : ZipApart z TI TO i1 i2 l1 l2)
    (hz : ZS s.heap z TI TO) (hTI : IsPair s.heap TI (.ref i1) (.ref i2)) (hTO : IsPair s.heap TO a b)
    (h1 : KI c1 s.heap i1 l1 k1) (h2 : KI c2 s.heap i2 l2 k2) (hl1 : KS c1 s.heap l1 xs) (hl2 : KS c2 s.heap l2 ys) (hx : xs[k1]? = some x) (hy : ys[k2]? = some y)
    (hQ : ∀ h', ZS h' z TI TO → (∃ a b, IsPair h' TO a b) → KI c1 h' i1 l1 (k1 + 1) → KI c2 h' i2 l2 (k2 + 1) → IsPair h' s.heap.objs.size x y → h'.objs.size = s.heap.objs.size + 1 →
      (∀ c o, c ≠ z → c ≠ TO → c ≠ i1 → c ≠ i2 → s.heap.get? c = some o → h'.get? c = some o) → Q (some (.ref s.heap.objs.size)) { s with heap := h' }) :
    wpAny (model prog w) A (pyNext (.ref z)) Q E s := by
  have hT : s.TypeIs (.ref z) "zip" := by
    obtain ⟨v, f, hz, _⟩ := hz
    exact ⟨_, hz, rfl⟩
  unfold pyNext
  exact wpAny_bind (wpAny_attempt (wpAny_callSpecial?_slot (name := Str.ofString "__next__") hT F.slot_zip_next
    (wpAny_call_entry F.slot_zip_next hT F.entry_zip_next (zs_item D hz hTI hTO h1 h2 hl1 hl2 hx hy fun h' a1 a2 a3 a4 a5 a6 a7 => wpAny_pure (hQ h' a1 a2 a3 a4 a5 a6 a7)) (F.args_zip_next_1 _))))
theorem zs_pyEnd {z TI TO i1 i2 l1 l2 : Addr} {k1 k2 : Nat} {xs ys : Array Value} {a b : Value} {c1 c2 : Bool} {Q : Option Value → Shared → Prop} (hh : A.handled = none) (D : ZipApart z TI TO i1 i2 l1 l2)
    (hz : ZS s.heap z TI TO) (hTI : IsPair s.heap TI (.ref i1) (.ref i2)) (hTO : IsPair s.heap TO a b)
    (h1 : KI c1 s.heap i1 l1 k1) (h2 : KI c2 s.heap i2 l2 k2) (hl1 : KS c1 s.heap l1 xs) (hl2 : KS c2 s.heap l2 ys) (hend : xs[k1]? = none ∨ ys[k2]? = none)
    (hQ : ∀ h', (∀ c o, c ≠ z → c ≠ TO → c ≠ i1 → c ≠ i2 → s.heap.get? c = some o → h'.get? c = some o) → Q none { s with heap := h' }) : wpAny (model prog w) A (pyNext (.ref z)) Q E s := by
  have hT : s.TypeIs (.ref z) "zip" := by
    obtain ⟨v, f, hz, _⟩ := hz
    exact ⟨_, hz, rfl⟩
  unfold pyNext
  refine wpAny_bind (wpAny_attempt (wpAny_callSpecial?_slot (name := Str.ofString "__next__") hT F.slot_zip_next
    (wpAny_call_entry F.slot_zip_next hT F.entry_zip_next (zs_end hh D hz hTI hTO h1 h2 hl1 hl2 hend fun h' e hk he => ?_) (F.args_zip_next_1 _))))
  obtain ⟨o, ho, hc⟩ := he
  refine wpAny_bind (wpAny_isInstance (T := "StopIteration") (b := true) ⟨o, ho, hc⟩ isSubtype_stop ?_)
  exact wpAny_pure (hQ _ hk)
/-- the step ahead of the store -/
theorem zs_go {elts : List Expr} {x1 : Nat} {pos : Pos} {z TI TO T : Addr} {Q : Unit → Shared → Prop} (hz : ZS s.heap z TI TO)
    (hQ : ∀ h', ZS h' z TI TO → Heap.SameBut z s.heap h' → Q () { s with heap := h' }) : wpAny (model prog w) A (letOwnedTupleGo (.Tuple elts x1 pos) (.ref z) (.ref T)) Q E s := by
  obtain ⟨v, f, hz, hv⟩ := hz
  unfold letOwnedTupleGo
  refine wpAny_bind (wpAny_load hz ?_)
  show wpAny _ A (if (["enumerate", "zip", "dict_itemiterator", "dict_reverseitemiterator", "odict_iterator", "itertools.zip_longest", "itertools.pairwise"].contains "zip" &&
      (#[v, .bool f, .bool false, .ref TI, .ref TO] : Array Value)[0]? == some (rawInt T)) = true then _ else _) Q E s
  split
  · refine wpAny_bind (wpAny_rule ?_)
    exact wpAny_setField_rec hz (by simp) fun h₁ hz₁ hs₁ => hQ h₁ ⟨.none, f, hz₁, .inl rfl⟩ hs₁
  · exact wpAny_pure (hQ s.heap ⟨v, f, hz, hv⟩ (Heap.SameBut.refl _ _))
theorem zs_iter {z TI TO : Addr} {Q : Value → Shared → Prop} (hz : ZS s.heap z TI TO) (h : Q (.ref z) s) : wpAny (model prog w) A (pyIter (.ref z)) Q E s := by
  obtain ⟨v, f, hz, _⟩ := hz
  have hT : s.TypeIs (.ref z) "zip" := ⟨_, hz, rfl⟩
  refine wpAny_pyIter_slot hT F.slot_zip_iter (wpAny_call_entry F.slot_zip_iter hT F.entry_zip_iter ?_ (F.args_zip_iter_1 _))
  show wpAny _ _ (ret (.ref z)) _ _ s
  exact wpAny_pure ⟨_, rfl, "zip", _, hT, F.slot_zip_next.lookup, h⟩
theorem meets_enum_zip (z TI TO : Addr) :
    Meets (Builtin.«enumerate.__new__» ⟨[.type "enumerate", .ref z], []⟩) (fun _ R s => ZS s.heap z TI TO ∧
      R (.ok (.ret (.ref s.heap.objs.size))) { s with heap := s.heap.push { cls := .type "enumerate", data := .fields #[.none, .bool false, .ref z, rawInt 0, .none, .none] } }) :=
  .of_wp fun prog w A R s h => by
    obtain ⟨hp, g, d, tk, os⟩ := s
    obtain ⟨h1, h⟩ := h
    have hsub := sub_enumerate
    have q1 : ∀ {A' : Around} {E : Value → Shared → Prop} {Q : Value → Shared → Prop}, Q (.ref z) ⟨hp, g, d, tk, os⟩ → wpAny (model prog w) A' (pyIter (.ref z)) Q E ⟨hp, g, d, tk, os⟩ := fun q => zs_iter (s := ⟨hp, g, d, tk, os⟩) h1 q
    wp_walk using q1
    refine wpAny_stack_any fun st => wpAny_pure ?_
    split
    · rename_i c _ _ _ _ _
      cases (c == Value.type "enumerate")
      · wp_walk using q1
        exact ⟨_, rfl, h⟩
      · wp_walk using q1
        exact ⟨_, rfl, h⟩
    · wp_walk using q1
      exact ⟨_, rfl, h⟩
end
end RN
end

section
set_option Elab.async false
set_option linter.all false
set_option maxRecDepth 100000
set_option maxHeartbeats 2000000
/-! RN_EZ2: zip and enumerate(zip) as sources of a loop. -/
namespace RN
open PySem PySem.Spec L2
def SqK (K : PySem.W.Frag) (c : Bool) (H : Hp) (a : Addr) (xs : List V) : Prop := match c with
  | true => SqT K H a xs
  | false => SqL K H a xs
theorem sqk_at {X : Cx} {pins : List (Addr × Obj)} {σ : L2.St} {H : Hp} {s : Shared} {c : Bool} {a : Addr} {xs : List V} (I : Inv X pins σ H s) (h : SqK X.K c H a xs) : ∃ its : List Value, Vals xs its ∧ KS c s.heap a its.toArray := by
  cases c with
  | true =>
    obtain ⟨its, rv, p, _⟩ := I.tuple h
    exact ⟨its, rv, p⟩
  | false =>
    obtain ⟨its, rv, p, _⟩ := I.list h
    exact ⟨its, rv, p.isList⟩
theorem sqk_inj {X : Cx} {pins : List (Addr × Obj)} {σ : L2.St} {H : Hp} {s : Shared} {c : Bool} {a : Addr} {xs ys : List V} (I : Inv X pins σ H s) (h : SqK X.K c H a xs) (h' : SqK X.K c H a ys) : xs = ys := by
  cases c with
  | true => exact I.tuple_inj h h'
  | false => exact I.list_inj h h'
/-- two sequences, their items in new pairs -/
def Itm (K : PySem.W.Frag) (c1 c2 : Bool) (a b : Addr) : It :=
  ⟨fun i H => ∃ (xs ys : List V) (x y : V), SqK K c1 H a xs ∧ SqK K c2 H b ys ∧ xs[i]? = some x ∧ ys[i]? = some y,
    fun i H v H' => ∃ T x y, v = .ref T ∧ H T = none ∧ H' = upd H T (.tup [x, y]) ∧ (∀ xs, SqK K c1 H a xs → xs[i]? = some x) ∧ ∀ ys, SqK K c2 H b ys → ys[i]? = some y,
    fun i H => ∃ xs ys : List V, SqK K c1 H a xs ∧ SqK K c2 H b ys ∧ (xs.length ≤ i ∨ ys.length ≤ i)⟩
/-- the same, counted -/
def Itez (K : PySem.W.Frag) (c1 c2 : Bool) (a b : Addr) : It :=
  ⟨fun i H => ∃ (xs ys : List V) (x y : V), SqK K c1 H a xs ∧ SqK K c2 H b ys ∧ xs[i]? = some x ∧ ys[i]? = some y,
    fun i H v H' => ∃ T Z x y, v = .ref T ∧ H Z = none ∧ H T = none ∧ T ≠ Z ∧ H' = upd (upd H Z (.tup [x, y])) T (.tup [.int (i : Nat), .ref Z]) ∧ (∀ xs, SqK K c1 H a xs → xs[i]? = some x) ∧ ∀ ys, SqK K c2 H b ys → ys[i]? = some y,
    fun i H => ∃ xs ys : List V, SqK K c1 H a xs ∧ SqK K c2 H b ys ∧ (xs.length ≤ i ∨ ys.length ≤ i)⟩
theorem turn_zs {P : Program} {w : World} {K : PySem.W.Frag} {elts : List Expr} {kk : Nat} {tpos : Pos} {a b z TI TO i1 i2 : Addr} {c1 c2 : Bool} (D : ZipApart z TI TO i1 i2 a b) :
    Turn P w K (.Tuple elts kk tpos) (Itm K c1 c2 a b) [z, TI, TO, i1, i2] z (fun i h => ZS h z TI TO ∧ IsPair h TI (.ref i1) (.ref i2) ∧ (∃ x y, IsPair h TO x y) ∧ KI c1 h i1 a i ∧ KI c2 h i2 b i) where
  mem := by simp
  obj := fun i h st c hc => by
    obtain ⟨⟨v, f, hz, _⟩, hTI, ⟨x, y, hTO⟩, h1, h2⟩ := st
    have e' : c = z ∨ c = TI ∨ c = TO ∨ c = i1 ∨ c = i2 := by simpa using hc
    rcases e' with q | q | q | q | q
    · rw [q]; exact ⟨_, hz, fun v q => nomatch q⟩
    · rw [q]; exact ⟨_, hTI, fun v q => nomatch q⟩
    · rw [q]; exact ⟨_, hTO, fun v q => nomatch q⟩
    · rw [q]; exact h1.got
    · rw [q]; exact h2.got
  keep := fun i h h' st k => by
    obtain ⟨hz, hTI, ⟨x, y, hTO⟩, h1, h2⟩ := st
    exact ⟨hz.at' fun o q => k z (by simp) o q, k TI (by simp) _ hTI, ⟨x, y, k TO (by simp) _ hTO⟩, h1.at' fun o q => k i1 (by simp) o q, h2.at' fun o q => k i2 (by simp) o q⟩
  item := by
    intro X hP hw hK hc i pins s σ H E I hf st hg
    subst hP hw hK
    obtain ⟨hz, hTI, ⟨x0, y0, hTO⟩, h1, h2⟩ := st
    obtain ⟨xs, ys, x, y, hqx, hqy, hx, hy⟩ := hg
    obtain ⟨its, rv, p⟩ := sqk_at I hqx
    obtain ⟨its2, rv2, p2⟩ := sqk_at I hqy
    obtain ⟨u, hu, ru⟩ := rv.get hx
    obtain ⟨u2, hu2, ru2⟩ := rv2.get hy
    have lt5 : ∀ c, c ∈ [z, TI, TO, i1, i2] → c < s.heap.objs.size := fun c hcm => by
      have e' : c = z ∨ c = TI ∨ c = TO ∨ c = i1 ∨ c = i2 := by simpa using hcm
      rcases e' with q | q | q | q | q
      · rw [q]; obtain ⟨_, _, e1, _⟩ := hz; exact Heap.lt_size e1
      · rw [q]; exact Heap.lt_size hTI
      · rw [q]; exact Heap.lt_size hTO
      · rw [q]; obtain ⟨_, e1, _⟩ := h1.got; exact Heap.lt_size e1
      · rw [q]; obtain ⟨_, e2, _⟩ := h2.got; exact Heap.lt_size e2
    have hzl : z < s.heap.objs.size := lt5 z (by simp)
    refine zs_pyNext D hz hTI hTO h1 h2 p p2 (x := u) (y := u2) (by simpa using hu) (by simpa using hu2) fun h' z' TO' h1' h2' hT hsz hk => ?_
    refine ⟨_, rfl, zs_go (s := { s with heap := h' }) z' fun h'' z'' sb => ?_⟩
    have hT2 : h''.get? s.heap.objs.size = some { cls := .type "tuple", data := .seq #[u, u2] } := (sb.2 _ (Nat.ne_of_gt hzl)).trans hT
    have new : ObjOk X.prog X.w (upd H s.heap.objs.size (.tup [x, y])) h'' s.heap.objs.size (.tup [x, y]) :=
      ⟨by show 2 ≤ sizeLine; decide, [u, u2], .cons ru (.cons ru2 .nil), ⟨_, hT2, rfl, _, rfl⟩⟩
    have I1 : Inv X pins σ (upd H s.heap.objs.size (.tup [x, y])) { s with heap := h'' } :=
      I.turnedNew (t' := s.toks) (ch := [z, TI, TO, i1, i2]) (fun c o hb q => (sb.2 c (fun q' => hb (by simp [q']))).trans (hk c o (fun q' => hb (by simp [q'])) (fun q' => hb (by simp [q'])) (fun q' => hb (by simp [q'])) (fun q' => hb (by simp [q'])) q)) hf (Nat.le_refl _) new
    refine ⟨.ref s.heap.objs.size, _, I1, rfl, ⟨_, x, y, rfl, I.hok.fresh (Nat.le_refl _), rfl, fun l hl => by rw [sqk_inj I hl hqx]; exact hx, fun l hl => by rw [sqk_inj I hl hqy]; exact hy⟩, ⟨z'', ?_, ?_, ?_, ?_⟩, fun c hcm => ?_⟩
    · exact (sb.2 _ D.TIz).trans (hk _ _ D.TIz D.TITO D.TIi1 D.TIi2 hTI)
    · obtain ⟨a', b', TO'⟩ := TO'
      exact ⟨a', b', (sb.2 _ D.TOz).trans TO'⟩
    · exact h1'.at' fun o q => (sb.2 _ D.i1z).trans q
    · exact h2'.at' fun o q => (sb.2 _ D.i2z).trans q
    · rw [upd_ne (Nat.ne_of_lt (lt5 c hcm))]
      exact (hf c hcm).1
  done := by
    intro X hP hw hK hc i pins s σ H E I hf st hg
    subst hP hw hK
    obtain ⟨hz, hTI, ⟨x0, y0, hTO⟩, h1, h2⟩ := st
    obtain ⟨xs, ys, hqx, hqy, hend⟩ := hg
    obtain ⟨its, rv, p⟩ := sqk_at I hqx
    obtain ⟨its2, rv2, p2⟩ := sqk_at I hqy
    have l1 := rv.length
    have l2 := rv2.length
    have he : its.toArray[i]? = none ∨ its2.toArray[i]? = none := by
      rcases hend with q | q
      · exact .inl (by simp; omega)
      · exact .inr (by simp; omega)
    exact zs_pyEnd (I.ok.hd hc) D hz hTI hTO h1 h2 p p2 he fun h' hk => ⟨rfl, I.turnedL (t' := s.toks) (ch := [z, TI, TO, i1, i2]) (fun c o hb q =>
      hk c o (fun q' => hb (by simp [q'])) (fun q' => hb (by simp [q'])) (fun q' => hb (by simp [q'])) (fun q' => hb (by simp [q'])) q) hf⟩
  self := fun A i s Q E st h => zs_iter st.1 h
theorem turn_ez {P : Program} {w : World} {K : PySem.W.Frag} {elts : List Expr} {kk : Nat} {tpos : Pos} {a b e z TI TO i1 i2 : Addr} {c1 c2 : Bool} (D : ZipApart z TI TO i1 i2 a b) (ez : e ≠ z) (eI : e ≠ TI) (eO : e ≠ TO) (e1 : e ≠ i1) (e2 : e ≠ i2) :
    Turn P w K (.Tuple elts kk tpos) (Itez K c1 c2 a b) [e, z, TI, TO, i1, i2] e
      (fun i h => (∃ old, IsEnum h e z ((i : Nat) : Int) old) ∧ ZS h z TI TO ∧ IsPair h TI (.ref i1) (.ref i2) ∧ (∃ x y, IsPair h TO x y) ∧ KI c1 h i1 a i ∧ KI c2 h i2 b i) where
  mem := by simp
  obj := fun i h st c hc => by
    obtain ⟨⟨old, he⟩, ⟨v, f, hz, _⟩, hTI, ⟨x, y, hTO⟩, h1, h2⟩ := st
    have e' : c = e ∨ c = z ∨ c = TI ∨ c = TO ∨ c = i1 ∨ c = i2 := by simpa using hc
    rcases e' with q | q | q | q | q | q
    · rw [q]; exact ⟨_, he, fun v q => nomatch q⟩
    · rw [q]; exact ⟨_, hz, fun v q => nomatch q⟩
    · rw [q]; exact ⟨_, hTI, fun v q => nomatch q⟩
    · rw [q]; exact ⟨_, hTO, fun v q => nomatch q⟩
    · rw [q]; exact h1.got
    · rw [q]; exact h2.got
  keep := fun i h h' st k => by
    obtain ⟨⟨old, he⟩, hz, hTI, ⟨x, y, hTO⟩, h1, h2⟩ := st
    exact ⟨⟨old, k e (by simp) _ he⟩, hz.at' fun o q => k z (by simp) o q, k TI (by simp) _ hTI, ⟨x, y, k TO (by simp) _ hTO⟩, h1.at' fun o q => k i1 (by simp) o q, h2.at' fun o q => k i2 (by simp) o q⟩
  item := by
    intro X hP hw hK hc i pins s σ H E I hf st hg
    subst hP hw hK
    obtain ⟨⟨old, he⟩, hz, hTI, ⟨x0, y0, hTO⟩, h1, h2⟩ := st
    obtain ⟨xs, ys, x, y, hqx, hqy, hx, hy⟩ := hg
    obtain ⟨its, rv, p⟩ := sqk_at I hqx
    obtain ⟨its2, rv2, p2⟩ := sqk_at I hqy
    obtain ⟨u, hu, ru⟩ := rv.get hx
    obtain ⟨u2, hu2, ru2⟩ := rv2.get hy
    have lt6 : ∀ c, c ∈ [e, z, TI, TO, i1, i2] → c < s.heap.objs.size := fun c hcm => by
      have e' : c = e ∨ c = z ∨ c = TI ∨ c = TO ∨ c = i1 ∨ c = i2 := by simpa using hcm
      rcases e' with q | q | q | q | q | q
      · rw [q]; exact Heap.lt_size he
      · rw [q]; obtain ⟨_, _, e1, _⟩ := hz; exact Heap.lt_size e1
      · rw [q]; exact Heap.lt_size hTI
      · rw [q]; exact Heap.lt_size hTO
      · rw [q]; obtain ⟨_, e1, _⟩ := h1.got; exact Heap.lt_size e1
      · rw [q]; obtain ⟨_, e2, _⟩ := h2.got; exact Heap.lt_size e2
    have hel : e < s.heap.objs.size := lt6 e (by simp)
    refine ez_pyNext D he ez eO e1 e2 hz hTI hTO h1 h2 p p2 (x := u) (y := u2) (by simpa using hu) (by simpa using hu2) fun hm h' tk hsm hTm hkm hk' ho hT hs' zm TOm h1m h2m => ?_
    refine ⟨_, rfl, wpAny_letOwnedTupleGo_enum (s := { s with heap := h', toks := tk + 1 }) ho fun h'' he' sb => ?_⟩
    have newZ : ObjOk X.prog X.w (upd H s.heap.objs.size (.tup [x, y])) hm s.heap.objs.size (.tup [x, y]) :=
      ⟨by show 2 ≤ sizeLine; decide, [u, u2], .cons ru (.cons ru2 .nil), ⟨_, hTm, rfl, _, rfl⟩⟩
    have I1 : Inv X pins σ (upd H s.heap.objs.size (.tup [x, y])) { s with heap := hm } :=
      I.turnedNew (t' := s.toks) (ch := [e, z, TI, TO, i1, i2]) (fun c o hb q => hkm c o (fun q' => hb (by simp [q'])) (fun q' => hb (by simp [q'])) (fun q' => hb (by simp [q'])) (fun q' => hb (by simp [q'])) q) hf (Nat.le_refl _) newZ
    have kk : ∀ c o, c ≠ e → hm.get? c = some o → h''.get? c = some o := fun c o hc q => (sb.2 c hc).trans (hk' c o hc q)
    have hne2 : s.heap.objs.size + 1 ≠ e := Nat.ne_of_gt (Nat.lt_succ_of_lt hel)
    have hT2 : h''.get? (s.heap.objs.size + 1) = some { cls := .type "tuple", data := .seq #[.int ((i : Nat) : Int) tk, .ref s.heap.objs.size] } := (sb.2 _ hne2).trans hT
    have newT : ObjOk X.prog X.w (upd (upd H s.heap.objs.size (.tup [x, y])) (s.heap.objs.size + 1) (.tup [.int (i : Nat), .ref s.heap.objs.size])) h'' (s.heap.objs.size + 1) (.tup [.int (i : Nat), .ref s.heap.objs.size]) :=
      ⟨by show 2 ≤ sizeLine; decide, [.int ((i : Nat) : Int) tk, .ref s.heap.objs.size], .cons ⟨_, rfl⟩ (.cons rfl .nil), ⟨_, hT2, rfl, _, rfl⟩⟩
    have hfe : ∀ c ∈ [e], FpOk X pins (upd H s.heap.objs.size (.tup [x, y])) c := fun c hc => by
      rw [List.mem_singleton.mp hc]
      obtain ⟨f0, f1⟩ := hf e (by simp)
      exact ⟨by rw [upd_ne (Nat.ne_of_lt hel)]; exact f0, f1⟩
    have I2 : Inv X pins σ (upd (upd H s.heap.objs.size (.tup [x, y])) (s.heap.objs.size + 1) (.tup [.int (i : Nat), .ref s.heap.objs.size])) { s with heap := h'', toks := tk + 1 } :=
      I1.turnedNew (s := { s with heap := hm }) (t' := tk + 1) (ch := [e]) (fun c o hb q => kk c o (fun q' => hb (by simp [q'])) q) hfe (Nat.le_of_eq hsm) newT
    refine ⟨.ref (s.heap.objs.size + 1), _, I2, rfl, ⟨_, _, x, y, rfl, I.hok.fresh (Nat.le_refl _), I.hok.fresh (Nat.le_succ _), Nat.succ_ne_self _, rfl, fun l hl => by rw [sqk_inj I hl hqx]; exact hx, fun l hl => by rw [sqk_inj I hl hqy]; exact hy⟩, ⟨⟨.ref s.heap.objs.size, ?_⟩, ?_, ?_, ?_, ?_, ?_⟩, fun c hcm => ?_⟩
    · have q1 : ((i + 1 : Nat) : Int) = (i : Int) + 1 := by omega
      rw [q1]
      exact he'
    · exact zm.at' fun o q => kk _ o ez.symm q
    · exact kk _ _ eI.symm (hkm _ _ D.TIz D.TITO D.TIi1 D.TIi2 hTI)
    · obtain ⟨a', b', TO'⟩ := TOm
      exact ⟨a', b', kk _ _ eO.symm TO'⟩
    · exact h1m.at' fun o q => kk _ o e1.symm q
    · exact h2m.at' fun o q => kk _ o e2.symm q
    · have l := lt6 c hcm
      rw [upd_ne (Nat.ne_of_lt (Nat.lt_succ_of_lt l)), upd_ne (Nat.ne_of_lt l)]
      exact (hf c hcm).1
  done := by
    intro X hP hw hK hc i pins s σ H E I hf st hg
    subst hP hw hK
    obtain ⟨⟨old, he⟩, hz, hTI, ⟨x0, y0, hTO⟩, h1, h2⟩ := st
    obtain ⟨xs, ys, hqx, hqy, hend⟩ := hg
    obtain ⟨its, rv, p⟩ := sqk_at I hqx
    obtain ⟨its2, rv2, p2⟩ := sqk_at I hqy
    have l1 := rv.length
    have l2 := rv2.length
    have hen : its.toArray[i]? = none ∨ its2.toArray[i]? = none := by
      rcases hend with q | q
      · exact .inl (by simp; omega)
      · exact .inr (by simp; omega)
    exact ez_pyEnd (I.ok.hd hc) D he hz hTI hTO h1 h2 p p2 hen fun h' hk => ⟨rfl, I.turnedL (t' := s.toks) (ch := [e, z, TI, TO, i1, i2]) (fun c o hb q =>
      hk c o (fun q' => hb (by simp [q'])) (fun q' => hb (by simp [q'])) (fun q' => hb (by simp [q'])) (fun q' => hb (by simp [q'])) q) hf⟩
  self := fun A i s Q E st h => let ⟨⟨_, he⟩, _⟩ := st; wpAny_pyIter_enum he h
theorem zip_made {c1 c2 : Bool} {prog : Program} {w : World} {A : Around} {E : Value → Shared → Prop} {s : Shared} {a b : Addr} {xs ys : Array Value} {Q : Value → Shared → Prop} (p1 : KS c1 s.heap a xs) (p2 : KS c2 s.heap b ys)
    (h : ∀ h', ZS h' (s.heap.objs.size + 4) (s.heap.objs.size + 2) (s.heap.objs.size + 3) → IsPair h' (s.heap.objs.size + 2) (.ref s.heap.objs.size) (.ref (s.heap.objs.size + 1)) →
      IsPair h' (s.heap.objs.size + 3) .none .none → KI c1 h' s.heap.objs.size a 0 → KI c2 h' (s.heap.objs.size + 1) b 0 → h'.objs.size = s.heap.objs.size + 5 →
      (∀ c o, s.heap.get? c = some o → h'.get? c = some o) → Q (.ref (s.heap.objs.size + 4)) { s with heap := h' }) :
    wpAny (model prog w) A (call (.type "zip") [.ref a, .ref b]) Q E s := by
  cases c1 <;> cases c2
  · exact zip_begins2 (begins_list a xs) (begins_list b ys) p1 p2 fun h' h1 h2 h3 h4 h5 h6 h7 => h h' ⟨_, _, h1, .inl rfl⟩ h2 h3 ⟨_, h4, rfl, rfl⟩ ⟨_, h5, rfl, rfl⟩ h6 h7
  · exact zip_begins2 (begins_list a xs) (begins_tuple b ys) p1 p2 fun h' h1 h2 h3 h4 h5 h6 h7 => h h' ⟨_, _, h1, .inl rfl⟩ h2 h3 ⟨_, h4, rfl, rfl⟩ ⟨_, h5, rfl, rfl⟩ h6 h7
  · exact zip_begins2 (begins_tuple a xs) (begins_list b ys) p1 p2 fun h' h1 h2 h3 h4 h5 h6 h7 => h h' ⟨_, _, h1, .inl rfl⟩ h2 h3 ⟨_, h4, rfl, rfl⟩ ⟨_, h5, rfl, rfl⟩ h6 h7
  · exact zip_begins2 (begins_tuple a xs) (begins_tuple b ys) p1 p2 fun h' h1 h2 h3 h4 h5 h6 h7 => h h' ⟨_, _, h1, .inl rfl⟩ h2 h3 ⟨_, h4, rfl, rfl⟩ ⟨_, h5, rfl, rfl⟩ h6 h7
theorem sqk_lt {c : Bool} {h : Heap} {a : Addr} {xs : Array Value} (p : KS c h a xs) : a < h.objs.size := by
  cases c with
  | true =>
    obtain ⟨o, e, _⟩ := (show h.IsTuple a xs from p)
    exact Heap.lt_size e
  | false =>
    obtain ⟨o, e, _⟩ := (show h.IsList a xs from p)
    exact Heap.lt_size e
def iZipM (K : PySem.W.Frag) (c1 c2 : Bool) (ta : TA) : TI := fun σ H R => ta σ H fun vs H1 => ∃ a b xs ys, vs = [.ref a, .ref b] ∧ SqK K c1 H1 a xs ∧ SqK K c2 H1 b ys ∧ R (Itm K c1 c2 a b) H1
def iEnumZip (K : PySem.W.Frag) (c1 c2 : Bool) (ta : TA) : TI := fun σ H R => ta σ H fun vs H1 => ∃ a b xs ys, vs = [.ref a, .ref b] ∧ SqK K c1 H1 a xs ∧ SqK K c2 H1 b ys ∧ R (Itez K c1 c2 a b) H1
theorem fresh_fp {X : Cx} {pins : List (Addr × Obj)} {σ : L2.St} {H : Hp} {s : Shared} (I : Inv X pins σ H s) {l : List Addr} (hl : ∀ c ∈ l, s.heap.objs.size ≤ c) : ∀ c ∈ l, FpOk X pins H c := fun c hc => I.fpOk (hl c hc) (I.hok.fresh (hl c hc))
theorem pi_zipM {c1 c2 : Bool} {X : Cx} {e e2 : Expr} {ta : TA} {p pos tpos : Pos} {elts : List Expr} {kk : Nat} (hg : Gl X "zip") (hm : X.mg "zip" = none) (ha : PA X [e, e2] ta)
    (hs : starEach [e, e2] X.env = (false, eval e X.env) :: starEach [e2] X.env := by rfl) (hpl : (backTo pos (starEach [e2] X.env)).any (·.1) = false := by rfl) :
    PI X (.Tuple elts kk tpos) (.Call (.Name "zip" p) [e, e2] [] pos) (iZipM X.K c1 c2 ta) := by
  refine ⟨fun pins s σ H R I h => ?_⟩
  refine PyProof.Rows.Call_ (ld_blt I hg hm PyProof.Rows.boot_zip (PyProof.Rows.callWith_type1 (thn (ha.run pos pins s σ H _ I h) fun us s1 ⟨vs, H1, I1, r1, q1⟩ => ?_) hs hpl))
  obtain ⟨a, b, xs, ys, ex, hqx, hqy, q⟩ := q1
  subst ex
  cases r1 with
  | cons r rr =>
    cases rr with
    | cons r' rr =>
      cases rr
      cases r
      cases r'
      obtain ⟨its, rv, p1⟩ := sqk_at I1 hqx
      obtain ⟨its2, rv2, p2⟩ := sqk_at I1 hqy
      refine zip_made p1 p2 fun h' hz hTI hTO h1 h2 hsz hk => zs_iter hz ?_
      have I2 : Inv X pins σ H1 { s1 with heap := h' } := I1.kept (t' := s1.toks) hk
      refine ⟨s1.heap.objs.size + 4, [s1.heap.objs.size + 4, s1.heap.objs.size + 2, s1.heap.objs.size + 3, s1.heap.objs.size, s1.heap.objs.size + 1], _, _, H1, rfl, I2, turn_zs (PySem.W.ktu_apart s1.heap.objs.size a b (sqk_lt p1) (sqk_lt p2)), ⟨hz, hTI, ⟨_, _, hTO⟩, h1, h2⟩, fresh_fp I1 fun c hc => ?_, q⟩
      have e' : c = s1.heap.objs.size + 4 ∨ c = s1.heap.objs.size + 2 ∨ c = s1.heap.objs.size + 3 ∨ c = s1.heap.objs.size ∨ c = s1.heap.objs.size + 1 := by simpa using hc
      rcases e' with z | z | z | z | z <;> rw [z] <;> first | exact Nat.le_add_right _ _ | exact Nat.le_refl _
theorem enum_made {prog : Program} {w : World} {A : Around} {E : Value → Shared → Prop} {s : Shared} {z TI TO : Addr} {Q : Value → Shared → Prop} (hz : ZS s.heap z TI TO)
    (h : ∀ h', IsEnum h' s.heap.objs.size z 0 .none → h'.objs.size = s.heap.objs.size + 1 → (∀ c o, s.heap.get? c = some o → h'.get? c = some o) → Q (.ref s.heap.objs.size) { s with heap := h' }) :
    wpAny (model prog w) A (call (.type "enumerate") [.ref z]) Q E s := by
  refine callType_new F.called_enumerate (by decide) (F.typeCall_enumerate_1 _) (F.newCall_enumerate_1 _) (fun obj => F.args_object_init_2 obj _) F.entry_enumerate_new (meets_enum_zip z TI TO) ⟨hz, ?_⟩
  have he : IsEnum (s.heap.push { cls := .type "enumerate", data := .fields #[.none, .bool false, .ref z, rawInt 0, .none, .none] }) s.heap.objs.size z 0 .none := Heap.get?_push_size _ rfl
  exact ⟨⟨_, he, rfl⟩, h _ he (Heap.size_push ..) fun c o x => Heap.get?_push_of_some _ x⟩
theorem pi_enumzip {c1 c2 : Bool} {X : Cx} {e e2 : Expr} {ta : TA} {p p2 pos pos2 tpos : Pos} {elts : List Expr} {kk : Nat} (hg : Gl X "enumerate") (hm : X.mg "enumerate" = none) (hg2 : Gl X "zip") (hm2 : X.mg "zip" = none) (ha : PA X [e, e2] ta)
    (hs : starEach [e, e2] X.env = (false, eval e X.env) :: starEach [e2] X.env := by rfl) (hpl : (backTo pos2 (starEach [e2] X.env)).any (·.1) = false := by rfl)
    (hs2 : starEach [Expr.Call (.Name "zip" p2) [e, e2] [] pos2] X.env = [(false, eval (Expr.Call (.Name "zip" p2) [e, e2] [] pos2) X.env)] := by rfl) :
    PI X (.Tuple elts kk tpos) (.Call (.Name "enumerate" p) [.Call (.Name "zip" p2) [e, e2] [] pos2] [] pos) (iEnumZip X.K c1 c2 ta) := by
  refine ⟨fun pins s σ H R I h => ?_⟩
  have hz : ∀ (E : Unit), wpAny (model X.prog X.w) X.A (eval (.Call (.Name "zip" p2) [e, e2] [] pos2) X.env) (fun v s1 => wpAny (model X.prog X.w) X.A (call (.type "enumerate") [v]) (fun v s2 => wpAny (model X.prog X.w) X.A (pyIter v) (PIE X pins σ (.Tuple elts kk tpos) R) X.xe s2) X.xe s1) X.xe s := fun _ => by
    refine PyProof.Rows.Call_ (ld_blt I hg2 hm2 PyProof.Rows.boot_zip (PyProof.Rows.callWith_type1 (thn (ha.run pos2 pins s σ H _ I h) fun us s1 ⟨vs, H1, I1, r1, q1⟩ => ?_) hs hpl))
    obtain ⟨a, b, xs, ys, ex, hqx, hqy, q⟩ := q1
    subst ex
    cases r1 with
    | cons r rr =>
      cases rr with
      | cons r' rr =>
        cases rr
        cases r
        cases r'
        obtain ⟨its, rv, p1⟩ := sqk_at I1 hqx
        obtain ⟨its2, rv2, p2⟩ := sqk_at I1 hqy
        refine zip_made p1 p2 fun h' hz hTI hTO h1 h2 hsz hk => ?_
        refine enum_made (s := { s1 with heap := h' }) hz fun h'' he hsz2 hk2 => wpAny_pyIter_enum he ?_
        have hsz' : h'.objs.size = s1.heap.objs.size + 5 := hsz
        have I2 : Inv X pins σ H1 { s1 with heap := h'' } := I1.kept (t' := s1.toks) fun c o q => hk2 c o (hk c o q)
        have ee : (({ s1 with heap := h' } : Shared)).heap.objs.size = s1.heap.objs.size + 5 := hsz
        rw [ee] at he
        refine ⟨s1.heap.objs.size + 5, [s1.heap.objs.size + 5, s1.heap.objs.size + 4, s1.heap.objs.size + 2, s1.heap.objs.size + 3, s1.heap.objs.size, s1.heap.objs.size + 1], _, _, H1, by rw [ee], I2,
          turn_ez (PySem.W.ktu_apart s1.heap.objs.size a b (sqk_lt p1) (sqk_lt p2)) ?_ ?_ ?_ ?_ ?_, ⟨⟨_, he⟩, hz.at' fun o q => hk2 _ o q, hk2 _ _ hTI, ⟨_, _, hk2 _ _ hTO⟩, h1.at' fun o q => hk2 _ o q, h2.at' fun o q => hk2 _ o q⟩, fresh_fp I1 fun c hc => ?_, q⟩
        · exact Nat.succ_ne_self _
        · exact Nat.ne_of_gt (Nat.add_lt_add_left (by decide) _)
        · exact Nat.ne_of_gt (Nat.add_lt_add_left (by decide) _)
        · exact Nat.ne_of_gt (Nat.lt_add_of_pos_right (by decide))
        · exact Nat.ne_of_gt (Nat.add_lt_add_left (by decide) _)
        · have e' : c = s1.heap.objs.size + 5 ∨ c = s1.heap.objs.size + 4 ∨ c = s1.heap.objs.size + 2 ∨ c = s1.heap.objs.size + 3 ∨ c = s1.heap.objs.size ∨ c = s1.heap.objs.size + 1 := by simpa using hc
          rcases e' with z | z | z | z | z | z <;> rw [z] <;> first | exact Nat.le_add_right _ _ | exact Nat.le_refl _
  refine PyProof.Rows.Call_ (ld_blt I hg hm PyProof.Rows.boot_enumerate (PyProof.Rows.callWith_type1 ?_ hs2 rfl))
  rw [hs2]
  show wpAny _ _ (spliced ((false, eval (.Call (.Name "zip" p2) [e, e2] [] pos2) X.env) :: backTo pos [])) _ _ s
  exact Calls.spliced_cons (thn (hz ()) fun v s1 q => Calls.spliced_nil q)
section
variable {W : Wd} {σ : L2.St} {H H' : Hp} {ρ : List Sl} {μ : List Cell}
/-- a list or a tuple -/
def seqD (c : Bool) (ds : List D) : D := match c with
  | true => .tup ds
  | false => .lst ds
theorem seqD_rp {K : PySem.W.Frag} {CN : Addr} {U : Addr → Prop} {c : Bool} {ds : List D} {v : V} (r : Rp CN U H (seqD c ds) v) : ∃ a xs, v = .ref a ∧ ¬ U a ∧ SqK K c H a xs ∧ RpL CN U H ds xs ∧ ∀ H', (∀ o, H a = some o → H' a = some o) → SqK K c H' a xs := by
  cases c with
  | true =>
    obtain ⟨a, xs, rfl, n, e, rl⟩ := r
    exact ⟨a, xs, rfl, n, SqT.of e, rl, fun H' h => SqT.of (h _ e)⟩
  | false =>
    obtain ⟨a, xs, rfl, n, e, rl⟩ := r
    exact ⟨a, xs, rfl, n, SqL.of e, rl, fun H' h => SqL.of (h _ e)⟩
theorem seqD_some {CN : Addr} {U : Addr → Prop} {c : Bool} {ds : List D} {a : Addr} (r : Rp CN U H (seqD c ds) (.ref a)) : ¬ U a ∧ ∃ o, H a = some o := by
  cases c with
  | true =>
    obtain ⟨a', xs, h, n, e, rl⟩ := r
    cases h
    exact ⟨n, _, e⟩
  | false =>
    obtain ⟨a', xs, h, n, e, rl⟩ := r
    cases h
    exact ⟨n, _, e⟩
theorem iv_zipM {K : PySem.W.Frag} {c1 c2 : Bool} {ta : TA} {ds es : List D} (h : EvA W ta ρ μ (Is [seqD c1 ds, seqD c2 es])) : IvP W (iZipM K c1 c2 ta) ρ μ (Is (zipD ds es)) := fun σ H s R q =>
  h σ H s _ fun vs H1 dd e1 s1 r1 p1 => by
    rw [show dd = [seqD c1 ds, seqD c2 es] from p1] at r1
    obtain ⟨v, r, rfl, rv, rr⟩ := r1
    obtain ⟨v2, r2, rfl, rv2, rr2⟩ := rr
    have er : r2 = [] := rr2
    subst er
    obtain ⟨a, xs, rfl, nU, ea, rl, ka⟩ := seqD_rp (K := K) rv
    obtain ⟨b, ys, rfl, nUb, eb, rlb, kb⟩ := seqD_rp (K := K) rv2
    obtain ⟨_, oa, hoa⟩ := seqD_some rv
    obtain ⟨_, ob, hob⟩ := seqD_some rv2
    refine ⟨a, b, xs, ys, rfl, ea, eb, q _ H1 _ e1 s1 (fun U' H' h1 h2 k => ?_) rfl⟩
    have na : ¬ U' a := fun z => (h1 a z).elim nU fun e => by rw [e] at hoa; cases hoa
    have nb : ¬ U' b := fun z => (h1 b z).elim nUb fun e => by rw [e] at hob; cases hob
    have ea' := ka H' fun o => k a o na
    have eb' := kb H' fun o => k b o nb
    have hlen : (zipD ds es).length = min xs.length ys.length := by
      unfold zipD
      rw [List.length_map, List.length_zip, rl.length, rlb.length]
    refine ⟨fun i hi => ?_, ?_, fun i x H2 hi y => ?_⟩
    · rw [hlen] at hi
      have h3 : i < xs.length := by omega
      have h4 : i < ys.length := by omega
      exact ⟨xs, ys, xs[i], ys[i], ea', eb', List.getElem?_eq_getElem h3, List.getElem?_eq_getElem h4⟩
    · refine ⟨xs, ys, ea', eb', ?_⟩
      rw [hlen]
      omega
    · obtain ⟨T, x1, x2, rfl, nT, rfl, f1, f2⟩ := y
      obtain ⟨d1, hd1, q1⟩ := rl.getV (f1 _ ea')
      obtain ⟨d2, hd2, q2⟩ := rlb.getV (f2 _ eb')
      have sm : Same H' (upd H' T (.tup [x1, x2])) := same_new nT
      exact ⟨sm, _, zip_get hd1 hd2, T, [x1, x2], rfl, fun z => h2 T z nT, upd_same, x1, [x2], rfl, ((Rp.upto h1 q1).kept k).kept (Kept.of sm), x2, [], rfl, ((Rp.upto h1 q2).kept k).kept (Kept.of sm), rfl⟩
/-- each item with its place -/
def enumD (ds : List D) : List D := (List.range ds.length).map fun (i : Nat) => D.tup [.int (i : Int), ds.getD i .non]
theorem enumD_len (ds : List D) : (enumD ds).length = ds.length := by unfold enumD; rw [List.length_map, List.length_range]
theorem enumD_get {ds : List D} {i : Nat} {d : D} (h : ds[i]? = some d) : (enumD ds)[i]? = some (.tup [.int (i : Int), d]) := by
  have hi : i < ds.length := (List.getElem?_eq_some_iff.mp h).1
  unfold enumD
  rw [List.getElem?_map, List.getElem?_range hi]
  show some (D.tup [.int (i : Int), ds.getD i .non]) = _
  rw [List.getD_eq_getElem?_getD, h]
  rfl
theorem enumD_getV {ds : List D} {i : Nat} {e : D} (h : (enumD ds)[i]? = some e) : ∃ d, ds[i]? = some d ∧ e = .tup [.int (i : Int), d] := by
  have hi : i < ds.length := by
    have := (List.getElem?_eq_some_iff.mp h).1
    rw [enumD_len] at this
    exact this
  rw [enumD_get (List.getElem?_eq_getElem hi)] at h
  cases h
  exact ⟨_, List.getElem?_eq_getElem hi, rfl⟩
theorem iv_enumzip {K : PySem.W.Frag} {c1 c2 : Bool} {ta : TA} {ds es : List D} (h : EvA W ta ρ μ (Is [seqD c1 ds, seqD c2 es])) : IvP W (iEnumZip K c1 c2 ta) ρ μ (Is (enumD (zipD ds es))) := fun σ H s R q =>
  h σ H s _ fun vs H1 dd e1 s1 r1 p1 => by
    rw [show dd = [seqD c1 ds, seqD c2 es] from p1] at r1
    obtain ⟨v, r, rfl, rv, rr⟩ := r1
    obtain ⟨v2, r2, rfl, rv2, rr2⟩ := rr
    have er : r2 = [] := rr2
    subst er
    obtain ⟨a, xs, rfl, nU, ea, rl, ka⟩ := seqD_rp (K := K) rv
    obtain ⟨b, ys, rfl, nUb, eb, rlb, kb⟩ := seqD_rp (K := K) rv2
    obtain ⟨_, oa, hoa⟩ := seqD_some rv
    obtain ⟨_, ob, hob⟩ := seqD_some rv2
    refine ⟨a, b, xs, ys, rfl, ea, eb, q _ H1 _ e1 s1 (fun U' H' h1 h2 k => ?_) rfl⟩
    have na : ¬ U' a := fun z => (h1 a z).elim nU fun e => by rw [e] at hoa; cases hoa
    have nb : ¬ U' b := fun z => (h1 b z).elim nUb fun e => by rw [e] at hob; cases hob
    have ea' := ka H' fun o => k a o na
    have eb' := kb H' fun o => k b o nb
    have hlen : (enumD (zipD ds es)).length = min xs.length ys.length := by
      rw [enumD_len]
      unfold zipD
      rw [List.length_map, List.length_zip, rl.length, rlb.length]
    refine ⟨fun i hi => ?_, ?_, fun i x H2 hi y => ?_⟩
    · rw [hlen] at hi
      have h3 : i < xs.length := by omega
      have h4 : i < ys.length := by omega
      exact ⟨xs, ys, xs[i], ys[i], ea', eb', List.getElem?_eq_getElem h3, List.getElem?_eq_getElem h4⟩
    · refine ⟨xs, ys, ea', eb', ?_⟩
      rw [hlen]
      omega
    · obtain ⟨T, Z, x1, x2, rfl, nZ, nT, hTZ, rfl, f1, f2⟩ := y
      obtain ⟨d1, hd1, q1⟩ := rl.getV (f1 _ ea')
      obtain ⟨d2, hd2, q2⟩ := rlb.getV (f2 _ eb')
      have sm1 : Same H' (upd H' Z (.tup [x1, x2])) := same_new nZ
      have nT' : upd H' Z (.tup [x1, x2]) T = none := by rw [upd_ne hTZ]; exact nT
      have sm : Same H' (upd (upd H' Z (.tup [x1, x2])) T (.tup [.int (i : Nat), .ref Z])) := sm1.trans (same_new nT')
      have hZ : upd (upd H' Z (.tup [x1, x2])) T (.tup [.int (i : Nat), .ref Z]) Z = some (.tup [x1, x2]) := by rw [upd_ne hTZ.symm, upd_same]
      exact ⟨sm, _, enumD_get (zip_get hd1 hd2), T, _, rfl, fun z => h2 T z nT, upd_same, .int (i : Nat), [.ref Z], rfl, rfl, .ref Z, [], rfl, ⟨Z, [x1, x2], rfl, fun z => h2 Z z nZ, hZ, x1, [x2], rfl, ((Rp.upto h1 q1).kept k).kept (Kept.of sm), x2, [], rfl, ((Rp.upto h1 q2).kept k).kept (Kept.of sm), rfl⟩, rfl⟩
end
end RN
end

section
set_option Elab.async false
set_option linter.all false
set_option maxRecDepth 100000
set_option maxHeartbeats 4000000
/-! RN_W4: nets. -/
namespace RN
open PySem PySem.Spec L2
/-- what the kit's words say of the class Net at CN, Parts at CP -/
structure NetF (K : PySem.W.Frag) (CN CP : Addr) : Prop where
  c : SlX.SCls K CN
  t0 : ∃ p, SlX.Slot1 K CN "own_knots" p 0
  t1 : ∃ p, SlX.Slot1 K CN "own_wires" p 1
  i : SlX.SIsi K CN
  ki : PySem.W.kitOne K (.ref CN) (.ref CN) = some true
  kp : PySem.W.kitOne K (.type "int") (.ref CP) = some false
structure PropF (K : PySem.W.Frag) (CN : Addr) (f : Str) (p g : Addr) : Prop where
  at_ : PySem.W.findIn K (.ref CN) f = some (some (.ref p))
  get : PySem.W.specialIn K (.ref p) "__get__" = some (some (.builtin "property.__get__"))
  tk : PySem.W.takesIn K (.ref p) = some true
  rc : ∃ rest, PySem.W.recIn K p "property" = some (.ref g :: rest)
def Prp (P : Program) (w : World) (K : PySem.W.Frag) (mg : Str → Option Value) (base : Heap) (CN : Addr) (k : Nat) (x : Str) (sp : Sp) : Prop := ∃ p g, PropF K CN x p g ∧ FnR P w K mg base CX0 k g sp
section
variable {X : Cx} {x : Str} {pos p : Pos} {a b e : Expr} {ta tb te : TE} {CN CP : Addr} {k : Nat} {sp : Sp}
theorem pe_net_prop {f : Str} (NF : NetF X.K CN CP) (C : Prp X.prog X.w X.K X.mg X.base CN k f sp) (hr : Room (k + 1) X.A) (he : PE X e te) (hb : attributeBase e f X.env (eval e X.env) = eval e X.env := by rfl) : PE X (.Attribute e f pos) (SlX.tPropSl CN sp E0 te) := by
  obtain ⟨p, g, pf, F⟩ := C
  exact SlX.pe_propSl he NF.c pf.at_ pf.get pf.tk pf.rc F hr (fun _ _ _ _ h => h) hb
theorem pe_isiNet (hm : X.mg "isinstance" = none) (ha : PE X a ta) (hb : PE X b tb) (hg : Gl X "isinstance" := by rfl) (h1 : starEach [a, b] X.env = (false, eval a X.env) :: starEach [b] X.env := by rfl) (h2 : starEach [b] X.env = (false, eval b X.env) :: starEach [] X.env := by rfl)
    (hpl : (backTo pos (starEach [b] X.env)).any (·.1) = false := by rfl) : PE X (.Call (.Name "isinstance" p) [a, b] [] pos) (tCB (SlX.rIsiSl X.K (.ref CN)) (tCons ta (tCons tb tNil))) :=
  pe_callB (SlX.call_isiSl (.ref CN)) hg hm PyProof.Rows.boot_isinstance (pa_cons ha (pa_cons hb pa_nil h2) h1) (by decide) (by decide) h1 hpl
theorem pe_gcls {C : Addr} (h : X.mg x = some (.ref C)) (hg : Gl X x := by rfl) (hd : (x == ("__debug__" : Str)) = false := by decide) : PE X (.Name x pos) (tC (.ref C)) := pe_glob hg h (show RelV (.ref C) (.ref C) from rfl) hd
/-- o.f = .., as a part of a target -/
def gSlot (K : PySem.W.Frag) (to : TE) (f : Str) : TG := fun y σ H Q => to σ H fun x H2 => ∃ a C dx p vs i, x = .ref a ∧ SlX.Slt H2 a C dx vs ∧ SlX.SCls K C ∧ SlX.Slot1 K C f p i ∧ Q σ (SlX.slH H2 a C dx (SlX.putS i y vs))
theorem pg_slot {f : Str} (he : PE X e te) : PG X (.Attribute e f pos) (gSlot X.K te f) := by
  refine ⟨fun pins s σ H v u Q I r h => ?_⟩
  refine PySem.W.kas_attr (thn (he.run pins s σ H _ I h) fun ov s2 q => ?_)
  obtain ⟨x, H2, I2, rx, a, C, dx, p, vs, i, ex, hsl, c, t, q2⟩ := q
  subst ex
  obtain rfl : ov = Value.ref a := rx
  exact SlX.setslot_ok I2 hsl c t r fun s3 I3 => ⟨σ, _, I3, q2⟩
end
/-! ### promises -/
abbrev spWire (CN : Addr) : Sp := spG (α := Nat × Wi) CN (fun z => [.int (z.1 : Int), z.2.d]) (fun z => z.2.ok z.1 = true ∧ 1 ≤ z.1 ∧ z.1 ≤ 12) fun _ => .bl true
abbrev spParts (CN : Addr) : Sp := spG (α := NetD) CN (fun n => [.int (n.k : Int), wsD n.ws]) NetD.ok fun _ => .bl true
abbrev spKnots (CN : Addr) : Sp := spG (α := NetD) CN (fun n => [n.d]) (fun _ => True) fun n => .int (n.k : Int)
abbrev spWires (CN : Addr) : Sp := spG (α := NetD) CN (fun n => [n.d]) (fun _ => True) fun n => wsD n.ws
abbrev spIsKnot (CN : Addr) : Sp := spG (α := NetD × Nat) CN (fun z => [z.1.d, .int (z.2 : Int)]) (fun z => z.2 < z.1.k) fun _ => .bl true
abbrev spReqNet (CN : Addr) : Sp := spG (α := NetD) CN (fun z => [z.d]) (fun z => True) fun _ => .non
abbrev spReqKnot (CN : Addr) : Sp := spG (α := NetD × Nat) CN (fun z => [z.1.d, .int (z.2 : Int)]) (fun z => z.2 < z.1.k) fun _ => .non
def spInit (CN : Addr) : Sp := fun vs H Q _ => ∃ (U : Addr → Prop) (n : NetD) (x dx : Addr) (vs' : List V), vs = .ref x :: vs' ∧ dx ≠ x ∧ H x = some (.ins CN dx []) ∧ H dx ≠ none ∧ ¬ U x ∧ ¬ U dx ∧ (∀ a, U a → H a ≠ none) ∧
  RpL CN (fun a => U a ∨ a = x ∨ a = dx) H [.int (n.k : Int), wsD n.ws] vs' ∧ n.ok ∧ ∀ H', (∀ a o, a ≠ x → a ≠ dx → H a = some o → H' a = some o) → Rp CN U H' n.d (.ref x) → Q .non H'
section
variable {P : Program} {w : World} {K : PySem.W.Frag} {mg : Str → Option Value} {base : Heap} {CN CP : Addr} {f : Addr} {fd : FuncData}
theorem ok_is_wire (B : Bf mg) (C_is_within : Cal P w K mg base CX0 2 "is_within" ["value", "least", "most"] (spWithin CN)) (C_is_small_rise : Cal P w K mg base CX0 7 "is_small_rise" ["value"] (spRise CN)) (g : mg "is_wire" = some (.ref f))
    (F : FnP K "is_wire" s_is_wire f fd) : Cal P w K mg base CX0 8 "is_wire" ["knots", "value"] (spWire CN) := by
  refine cal_mk g F (fun _ _ _ _ _ _ us hl => match us, hl with | [_, _], _ => rfl) (fn_N _ _ _ F sc_is_wire (fun _ => rfl) fun cdv A outer s H E hr z hx => ?_)
  obtain ⟨k, x⟩ := z
  obtain ⟨hx, hk1, hk2⟩ := hx
  replace hx : x.ok k = true := hx
  unfold Wi.ok at hx
  rw [Bool.and_eq_true, Bool.and_eq_true, Bool.and_eq_true, decide_eq_true_eq, decide_eq_true_eq, decide_eq_true_eq] at hx
  obtain ⟨⟨⟨h1, h2⟩, h3⟩, h4⟩ := hx
  refine ⟨_, (pss_cons (ps_if (PW.pt (pw_or (pt_not (pt_val (pe_isi B.b_isinstance (pv 1) (pe_tyn (n := "tuple") B.b_tuple PyProof.Rows.boot_tuple)))) (pw_or1 (pt_cmpR op_ne (pe_len B.b_len (pv 1)) (pe_gint B.c_TRIPLE_nets) (nomark _))))) (pss_one (ps_ret pe_bl)) pss_nil) (pss_cons (ps_if (PW.pt (pw_or (pt_not (pt_val (pe_all rfl B.b_all (pe_lc (own := [("end", 2)]) (g := (gName 2)) rfl sc_is_wire.nd (pi_tup (pe_slice sl_tupA (pv 1) po_none (po_some pe_int))) (blkOk_by (own := [("end", 2)]) (N := n_is_wire) (sc := defScope s_is_wire) (by decide +kernel)) (fun _ _ _ _ _ => (pg_name (i := 2) sc_is_wire.nd rfl (by first | exact Or.inl rfl | exact Or.inr rfl))) (fun _ _ _ _ _ => pts_nil) (fun _ _ _ _ _ => (pe_own C_is_within (hr.mono (by decide)) rfl pass0 (pa_cons (pv 2) (pa_cons pe_int (pa_cons (pe_op op_sub (pv 0) pe_int) pa_nil))))))))) (pw_or1 (pt_cmpR op_eq (pe_ix ix_tup (pv 1) pe_int (fun _ _ => rfl)) (pe_ix ix_tup (pv 1) pe_int (fun _ _ => rfl)) (nomark _))))) (pss_one (ps_ret pe_bl)) pss_nil) (pss_one (ps_ret (pe_own C_is_small_rise (hr.mono (by decide)) rfl pass0 (pa_cons (pe_ix ix_tup (pv 1) pe_int (fun _ _ => rfl)) pa_nil)))))), fun U => ?_⟩
  refine sv_guard (b := false) (EvB.to (eb_or (eb_not (eb_B (ev_isT (x := x.d) (ev_var rfl)))) fun _ => eb_T (ev_neI (ev_lenT (ds := [.int (x.t : Int), .int (x.h : Int), x.r.d]) (ev_var rfl)) ev_int)) rfl) (fun h => nomatch h) fun _ => ?_
  refine sv_guard (b := false) (EvB.to (eb_or (a := false) (EvB.to (eb_not (eb_B (ev_allM (f := fun d => d.within 0 ((k : Int) - 1)) (ev_map (f := fun d => .bl (d.within 0 ((k : Int) - 1))) (iv_tup (ds := [.int (x.t : Int), .int (x.h : Int)]) (EvP.to (ev_slT (ds := [.int (x.t : Int), .int (x.h : Int), x.r.d]) (ev_var rfl) eo_none (eo_some ev_int)) ?_)) (wp_name (by decide)) (show 2 < 1000 by decide) fun i d p acc hd => ?_)))) ?_) fun _ =>
    eb_T (ev_eqI (ev_ixT (i := 0) (d := .int (x.t : Int)) rfl (ev_var rfl) ev_int) (ev_ixT (i := 1) (d := .int (x.h : Int)) rfl (ev_var rfl) ev_int))) ?_) (fun h => nomatch h) fun _ => ?_
  · rfl
  · refine gv_name ⟨rfl, ev_callG (d, 0, (k : Int) - 1) (ea_cons (ev_var rfl) (ea_cons ev_int (ea_cons (ev_sub (ev_var rfl) ev_int) ea_nil))) ?_⟩
    match i, hd with
    | 0, hd => cases hd; rfl
    | 1, hd => cases hd; rfl
  · show (!((D.int (x.t : Int)).within 0 ((k : Int) - 1) && ((D.int (x.h : Int)).within 0 ((k : Int) - 1) && true))) = false
    have q1 : (D.int (x.t : Int)).within 0 ((k : Int) - 1) = true := by
      unfold D.within
      rw [Bool.and_eq_true, decide_eq_true_eq, decide_eq_true_eq]
      omega
    have q2 : (D.int (x.h : Int)).within 0 ((k : Int) - 1) = true := by
      unfold D.within
      rw [Bool.and_eq_true, decide_eq_true_eq, decide_eq_true_eq]
      omega
    rw [q1, q2]
    rfl
  · exact decide_eq_false (by omega)
  · exact sv_ret1 (ev_callG x.r (ea_cons (ev_ixT (i := 2) (d := x.r.d) rfl (ev_var rfl) ev_int) ea_nil) h4) rfl
theorem ok_are_parts (B : Bf mg) (C_is_within : Cal P w K mg base CX0 2 "is_within" ["value", "least", "most"] (spWithin CN)) (C_is_wire : Cal P w K mg base CX0 8 "is_wire" ["knots", "value"] (spWire CN)) (g : mg "are_parts" = some (.ref f))
    (F : FnP K "are_parts" s_are_parts f fd) : Cal P w K mg base CX0 9 "are_parts" ["knots", "wires"] (spParts CN) := by
  refine cal_mk g F (fun _ _ _ _ _ _ us hl => match us, hl with | [_, _], _ => rfl) (fn_N _ _ _ F sc_are_parts (fun _ => rfl) fun cdv A outer s H E hr n hx => ?_)
  obtain ⟨h1, h2, h3, h4⟩ := hx
  refine ⟨_, (pss_cons (ps_if (PW.pt (pw_or (pt_not (pt_val (pe_own C_is_within (hr.mono (by decide)) rfl pass0 (pa_cons (pv 0) (pa_cons pe_int (pa_cons (pe_gint B.c_MOST_KNOTS) pa_nil)))))) (pw_or (pt_not (pt_val (pe_isi B.b_isinstance (pv 1) (pe_tyn (n := "tuple") B.b_tuple PyProof.Rows.boot_tuple)))) (pw_or1 (pt_cmpR op_gt (pe_len B.b_len (pv 1)) (pe_gint B.c_MOST_WIRES) (nomark _)))))) (pss_one (ps_ret pe_bl)) pss_nil) (pss_one (ps_ret (pe_all rfl B.b_all (pe_lc (own := [("wire", 2)]) (g := (gName 2)) rfl sc_are_parts.nd (pi_tup (pv 1)) (blkOk_by (own := [("wire", 2)]) (N := n_are_parts) (sc := defScope s_are_parts) (by decide +kernel)) (fun _ _ _ _ _ => (pg_name (i := 2) sc_are_parts.nd rfl (by first | exact Or.inl rfl | exact Or.inr rfl))) (fun _ _ _ _ _ => pts_nil) (fun _ _ _ _ _ => (pe_own C_is_wire (hr.mono (by decide)) rfl pass0 (pa_cons (pv 0) (pa_cons (pv 2) pa_nil))))))))), fun U => ?_⟩
  have hlen : (n.ws.map Wi.d).length = n.ws.length := List.length_map ..
  refine sv_guard (b := false) (EvB.to (eb_or (a := false) (EvB.to (eb_not (eb_B (ev_callG (D.int (n.k : Int), 1, 12) (ea_cons (ev_var rfl) (ea_cons ev_int (ea_cons ev_int ea_nil))) rfl))) ?_) fun _ => eb_or (eb_not (eb_B (ev_isT (x := wsD n.ws) (ev_var rfl)))) fun _ => eb_T (ev_gt (ev_lenT (ds := n.ws.map Wi.d) (ev_var rfl)) ev_int)) ?_) (fun h => nomatch h) fun _ => ?_
  · show (!(decide ((1 : Int) ≤ (n.k : Int)) && decide ((n.k : Int) ≤ 12))) = false
    rw [decide_eq_true (by omega), decide_eq_true (by omega)]
    rfl
  · rw [hlen]
    exact decide_eq_false (by omega)
  · refine sv_ret1 (EvP.to (ev_allM (f := fun _ => true) (ev_map (f := fun _ => .bl true) (iv_tup (ds := n.ws.map Wi.d) (ev_var rfl)) (wp_name (by decide)) (by omega) fun i d p acc hd => ?_)) (congrArg D.bl (List.all_eq_true.mpr fun _ _ => rfl))) rfl
    obtain ⟨q, hq, rfl⟩ := getMap hd
    exact gv_name ⟨rfl, ev_callG (n.k, q) (ea_cons (ev_var rfl) (ea_cons (ev_var rfl) ea_nil)) ⟨List.all_eq_true.mp h4 q (List.mem_of_getElem? hq), h1, h2⟩⟩
theorem ok_knots (NF : NetF K CN CP) {p : Addr} (pf : PropF K CN "knots" p f) (F : FunD K "knots" "Net.knots" (defArgs s_Net_knots) (defBody s_Net_knots) (defScope s_Net_knots) [] [] f fd) : Prp P w K mg base CN 1 "knots" (spKnots CN) := by
  have ok : FnOk P w K mg base CX0 1 f fd ["self"] (spKnots CN) := fn_N _ _ _ F sc_Net_knots (fun _ => rfl) fun cdv A outer s H E hr n hx => by
    obtain ⟨t, h0⟩ := NF.t0
    exact ⟨_, (pss_one (ps_ret (SlX.pe_sl (pv 0)))), fun U => sv_ret1 (ev_sl0 (wd := wsD n.ws) NF.c h0 (ev_var rfl)) rfl⟩
  have b := ok.raw (F.bindsN fun _ _ _ _ _ _ us hl => match us, hl with | [_], _ => rfl) .nil
  exact ⟨p, f, pf, b.imp fun vs H Q E h => by rw [List.append_nil]; exact h⟩
theorem ok_wires (NF : NetF K CN CP) {p : Addr} (pf : PropF K CN "wires" p f) (F : FunD K "wires" "Net.wires" (defArgs s_Net_wires) (defBody s_Net_wires) (defScope s_Net_wires) [] [] f fd) : Prp P w K mg base CN 1 "wires" (spWires CN) := by
  have ok : FnOk P w K mg base CX0 1 f fd ["self"] (spWires CN) := fn_N _ _ _ F sc_Net_wires (fun _ => rfl) fun cdv A outer s H E hr n hx => by
    obtain ⟨t, h0⟩ := NF.t1
    exact ⟨_, (pss_one (ps_ret (SlX.pe_sl (pv 0)))), fun U => sv_ret1 (ev_sl1 (k := (n.k : Int)) (wd := wsD n.ws) NF.c h0 (ev_var rfl)) rfl⟩
  have b := ok.raw (F.bindsN fun _ _ _ _ _ _ us hl => match us, hl with | [_], _ => rfl) .nil
  exact ⟨p, f, pf, b.imp fun vs H Q E h => by rw [List.append_nil]; exact h⟩
theorem ok_is_knot (NF : NetF K CN CP) (C_is_within : Cal P w K mg base CX0 2 "is_within" ["value", "least", "most"] (spWithin CN)) (g : mg "is_knot" = some (.ref f))
    (F : FnP K "is_knot" s_is_knot f fd) : Cal P w K mg base CX0 3 "is_knot" ["net", "value"] (spIsKnot CN) := by
  refine cal_mk g F (fun _ _ _ _ _ _ us hl => match us, hl with | [_, _], _ => rfl) (fn_N _ _ _ F sc_is_knot (fun _ => rfl) fun cdv A outer s H E hr z hx => ?_)
  obtain ⟨n, j⟩ := z
  replace hx : j < n.k := hx
  obtain ⟨t, h0⟩ := NF.t0
  refine ⟨_, (pss_one (ps_ret (pe_own C_is_within (hr.mono (by decide)) rfl pass0 (pa_cons (pv 1) (pa_cons pe_int (pa_cons (pe_op op_sub (SlX.pe_sl (pv 0)) pe_int) pa_nil)))))), fun U => ?_⟩
  refine sv_ret1 (EvP.to (ev_callG (D.int (j : Int), 0, (n.k : Int) - 1) (ea_cons (ev_var rfl) (ea_cons ev_int (ea_cons (ev_sub (ev_sl0 (wd := wsD n.ws) NF.c h0 (ev_var rfl)) ev_int) ea_nil))) rfl) (congrArg D.bl ?_)) rfl
  show (decide ((0 : Int) ≤ (j : Int)) && decide ((j : Int) ≤ (n.k : Int) - 1)) = true
  rw [decide_eq_true (by omega), decide_eq_true (by omega)]
  rfl
theorem ok_require_net (B : Bf mg) (NF : NetF K CN CP) (g_Net : mg "Net" = some (.ref CN)) (g : mg "require_net" = some (.ref f))
    (F : FnP K "require_net" s_require_net f fd) : Cal P w K mg base CX0 1 "require_net" ["value"] (spReqNet CN) := by
  refine cal_mk g F (fun _ _ _ _ _ _ us hl => match us, hl with | [_], _ => rfl) (fn_N _ _ _ F sc_require_net (fun _ => rfl) fun cdv A outer s H E hr n hx => ?_)
  refine ⟨_, (pss_one (ps_if (pt_not (pt_val (pe_isiNet (CN := CN) B.b_isinstance (pv 0) (pe_gcls g_Net)))) (pss_one ps_never) pss_nil)), fun U => ?_⟩
  exact sv_if (b := false) (EvB.to (eb_not (eb_B (ev_isiNet (k := (n.k : Int)) (wd := wsD n.ws) NF.c NF.i NF.ki (ev_var rfl) ev_cls))) rfl) (fun h => nomatch h) fun _ => sv_next rfl
theorem ok_require_knot (C_is_knot : Cal P w K mg base CX0 3 "is_knot" ["net", "value"] (spIsKnot CN)) (g : mg "require_knot" = some (.ref f))
    (F : FnP K "require_knot" s_require_knot f fd) : Cal P w K mg base CX0 4 "require_knot" ["net", "value"] (spReqKnot CN) := by
  refine cal_mk g F (fun _ _ _ _ _ _ us hl => match us, hl with | [_, _], _ => rfl) (fn_N _ _ _ F sc_require_knot (fun _ => rfl) fun cdv A outer s H E hr z hx => ?_)
  refine ⟨_, (pss_one (ps_if (pt_not (pt_val (pe_own C_is_knot (hr.mono (by decide)) rfl pass0 (pa_cons (pv 0) (pa_cons (pv 1) pa_nil))))) (pss_one ps_never) pss_nil)), fun U => ?_⟩
  exact sv_if (b := false) (EvB.to (eb_not (eb_B (ev_callG z (ea_cons (ev_var rfl) (ea_cons (ev_var rfl) ea_nil)) hx))) rfl) (fun h => nomatch h) fun _ => sv_next rfl
theorem ok_Net_init (B : Bf mg) (NF : NetF K CN CP) (C_are_parts : Cal P w K mg base CX0 9 "are_parts" ["knots", "wires"] (spParts CN)) (g_Parts : mg "Parts" = some (.ref CP))
    (F : FunD K "__init__" "Net.__init__" (defArgs s_Net_init) (defBody s_Net_init) (defScope s_Net_init) [] [] f fd) : FnOk P w K mg base CX0 10 f fd ["self", "knots", "wires"] (spInit CN) := by
  refine F.ok sc_Net_init (fun vs H Q E h => ?_) fun cdv A outer s H vs Q E hr h => ?_
  · obtain ⟨U, n, x, dx, vs', rfl, _, _, _, _, _, _, r, _⟩ := h
    rw [List.length_cons, r.length]
    rfl
  · obtain ⟨U, n, x, dx, vs', rfl, hne, hx, hdx, nx, ndx, hU, r, hn, q⟩ := h
    obtain ⟨p0, h0⟩ := NF.t0
    obtain ⟨p1, h1⟩ := NF.t1
    have st : Stt ⟨CN, fun a => U a ∨ a = x ∨ a = dx, fun a => U a ∨ a = x ∨ a = dx, [], 0⟩ (L2.start n_Net_init (.ref x :: vs')) H [.no, .d (.int (n.k : Int)), .d (wsD n.ws)] [] := by
      have r0 := r
      obtain ⟨v1, r1, rfl, rv1, v2, r2, rfl, rv2, rr⟩ := r
      rw [show r2 = [] from rr]
      refine ⟨⟨fun j c h => by simp at h, fun a h => ?_, fun a h => h, fun a h => by simp at h, List.nodup_nil, rfl, Nat.le_refl _⟩, fun i y h => ?_, rfl⟩
      · rcases h with h | h | h
        · exact hU a h
        · rw [h, hx]
          intro z
          cases z
        · rw [h]
          exact hdx
      · match i, h with
        | 0, h => cases h; trivial
        | 1, h => cases h; exact ⟨v1, rfl, rv1⟩
        | 2, h => cases h; exact ⟨v2, rfl, rv2⟩
    have hσ : ∃ v1 v2, L2.start n_Net_init (.ref x :: vs') = [some (.ref x), some v1, some v2] := by
      obtain ⟨v1, r1, rfl, rv1, v2, r2, rfl, rv2, rr⟩ := r
      rw [show r2 = [] from rr]
      exact ⟨v1, v2, rfl⟩
    obtain ⟨v1, v2, hσ⟩ := hσ
    refine ⟨_, PSs.nox (X := cxOf CX0 P w K mg base n_Net_init "Net.__init__" (defScope s_Net_init) f cdv A outer s H E) (pss_one (ps_if (pt_val (pe_isi B.b_isinstance (pv 1) (pe_gcls g_Parts))) (pss_one ps_never) (pss_cons (ps_if (pt_not (pt_val (pe_own C_are_parts (hr.mono (by decide)) rfl pass0 (pa_cons (pv 1) (pa_cons (pv 2) pa_nil))))) (pss_one ps_never) pss_nil) (pss_one (ps_asg (pe_tup (pa_cons (pv 1) (pa_cons (pv 2) pa_nil))) (pg_tup rfl (pgs_cons (pg_slot (pv 0)) (pgs_cons (pg_slot (pv 0)) pgs_nil)))))))), ?_⟩
    rw [hσ] at st ⊢
    have e1 : EvB ⟨CN, fun a => U a ∨ a = x ∨ a = dx, fun a => U a ∨ a = x ∨ a = dx, [], 0⟩ (tB (tCB (rIsi K) (tCons (tVar 1) (tCons (tC (.ref CP)) tNil)))) [.no, .d (.int (n.k : Int)), .d (wsD n.ws)] [] (Is false) := eb_B (ev_isiC (ev_var rfl) ev_cls rfl NF.kp)
    have e2 : EvB ⟨CN, fun a => U a ∨ a = x ∨ a = dx, fun a => U a ∨ a = x ∨ a = dx, [], 0⟩ (tNot (tB (tCall (spParts CN) [] E0 (tCons (tVar 1) (tCons (tVar 2) tNil))))) [.no, .d (.int (n.k : Int)), .d (wsD n.ws)] [] (Is false) := EvB.to (eb_not (eb_B (ev_callG n (ea_cons (ev_var rfl) (ea_cons (ev_var rfl) ea_nil)) hn))) rfl
    refine e1 _ H st _ fun b1 H1 c1 s1 pb1 => ?_
    rw [show b1 = false from pb1]
    refine iteF ?_
    unfold tSeq tIfS
    refine e2 _ H1 s1 _ fun b2 H2 c2 s2 p2 => ?_
    rw [show b2 = false from p2]
    refine iteF ?_
    have e3 : EvP ⟨CN, fun a => U a ∨ a = x ∨ a = dx, fun a => U a ∨ a = x ∨ a = dx, [], 0⟩ (tTup (tCons (tVar 1) (tCons (tVar 2) tNil))) [.no, .d (.int (n.k : Int)), .d (wsD n.ws)] [] (Is (.tup [.int (n.k : Int), wsD n.ws])) := ev_tup1 (ea_cons (ev_var rfl) (ea_cons (ev_var rfl) ea_nil)) (show 2 ≤ 1000 by decide)
    unfold tNext tAsg
    dsimp only
    refine e3 _ H2 s2 _ fun v H3 d c3 s3 r3 p3 => ?_
    rw [show d = _ from p3] at r3
    obtain ⟨ta, xs, rfl, nta, eta, u1, xr1, rfl, ru1, u2, xr2, rfl, ru2, xrr⟩ := r3
    rw [show xr2 = [] from xrr] at eta
    have c4 := c1.trans (c2.trans c3)
    refine ⟨ta, _, rfl, SqT.of eta, rfl, u1, [u2], rfl, .ref x, rfl, x, CN, dx, p0, [], 0, rfl, .inl ⟨c4 x _ (by simp) hx, rfl⟩, NF.c, h0, u2, [], rfl, .ref x, rfl, x, CN, dx, p1, _, 1, rfl, SlX.slH_slt hne, NF.c, h1, rfl, ?_⟩
    rw [SlX.slH_twice hne]
    have hk : ∀ a o, a ≠ x → a ≠ dx → H3 a = some o → SlX.slH H3 x CN dx (SlX.putS 1 u2 (SlX.putS 0 u1 [])) a = some o := fun a o n1 n2 h => by
      rw [SlX.slH_ne n1 n2]
      exact h
    refine q _ (fun a o n1 n2 h => hk a o n1 n2 (c4 a o (by simp) h)) ?_
    have hs := SlX.slH_slt (H := H3) (C := CN) (vs := SlX.putS 1 u2 (SlX.putS 0 u1 [])) hne
    rcases hs with ⟨z, zz⟩ | ⟨z1, z2⟩
    · cases zz
    · refine ⟨x, dx, u2, rfl, nx, ndx, ?_, z2, ?_⟩
      · rw [z1, show u1 = .int (n.k : Int) from ru1]
        rfl
      · refine (ru2.kept (H' := SlX.slH H3 x CN dx (SlX.putS 1 u2 (SlX.putS 0 u1 []))) fun a o nb h => hk a o (fun e => nb (.inr (.inl e))) (fun e => nb (.inr (.inr e))) h).weak fun a z => .inl z
end
end RN
end

section
set_option Elab.async false
set_option linter.all false
set_option maxRecDepth 100000
set_option maxHeartbeats 2000000
/-! RN_Mir: what the search for the farthest heights computes, as plain functions. -/
namespace RN
open PySem
structure Lk where
  a : Nat
  b : Nat
  l : Int
  w : Nat
  y : Int
  deriving Inhabited
def Lk.d (e : Lk) : D := .tup [.int (e.a : Int), .int (e.b : Int), .int e.l, .tup [.int (e.w : Int), .int e.y]]
abbrev Far := Nat → Option Int
abbrev Ahd := Nat → Option (Nat × Nat × Int)
def up {α : Type} (f : Nat → α) (b : Nat) (v : α) : Nat → α := fun k => if k = b then v else f k
theorem up_same {α : Type} (f : Nat → α) (b : Nat) (v : α) : up f b v b = v := if_pos rfl
theorem up_ne {α : Type} {f : Nat → α} {b k : Nat} {v : α} (h : k ≠ b) : up f b v k = f k := if_neg h
structure BS where
  far : Far
  ah : Ahd
  fd : Option Nat
def better (far : Far) (e : Lk) : Bool := match far e.a with
  | none => false
  | some x => match far e.b with
    | none => true
    | some z => decide (x + e.l < z)
def relax (s : BS) (e : Lk) : BS := if better s.far e = true then ⟨up s.far e.b (some ((s.far e.a).getD 0 + e.l)), up s.ah e.b (some (e.a, e.w, e.y)), some e.b⟩ else s
def shortM (ls : List Lk) (far : Far) (ah : Ahd) : BS := ls.foldl relax ⟨far, ah, none⟩
def bfAt (ls : List Lk) (far0 : Far) : Nat → BS
  | 0 => ⟨far0, fun _ => none, none⟩
  | i + 1 => shortM ls (bfAt ls far0 i).far (bfAt ls far0 i).ah
/-- the links of the first i wires -/
def loL (x : Wi) (i : Nat) : Option Int → List Lk
  | some lo => [⟨x.t, x.h, -lo, i, 1⟩]
  | none => []
def hiL (x : Wi) (i : Nat) : Option Int → List Lk
  | some hi => [⟨x.h, x.t, hi, i, -1⟩]
  | none => []
def lkAt (ws : List Wi) (rs : List Rg) (i : Nat) : List Lk := match ws[i]?, rs[i]? with
  | some x, some r => loL x i r.1 ++ hiL x i r.2
  | _, _ => []
theorem loL_len (x : Wi) (i : Nat) (o : Option Int) : (loL x i o).length ≤ 1 := by cases o <;> exact Nat.le_of_ble_eq_true rfl
theorem hiL_len (x : Wi) (i : Nat) (o : Option Int) : (hiL x i o).length ≤ 1 := by cases o <;> exact Nat.le_of_ble_eq_true rfl
theorem lkAt_eq {ws : List Wi} {rs : List Rg} {i : Nat} {x : Wi} {r : Rg} (h1 : ws[i]? = some x) (h2 : rs[i]? = some r) : lkAt ws rs i = loL x i r.1 ++ hiL x i r.2 := by
  unfold lkAt
  rw [h1, h2]
def lkUp (ws : List Wi) (rs : List Rg) (i : Nat) : List Lk := (List.range i).flatMap (lkAt ws rs)
def linksOf (ws : List Wi) (rs : List Rg) : List Lk := lkUp ws rs ws.length
theorem lkUp_succ (ws : List Wi) (rs : List Rg) (i : Nat) : lkUp ws rs (i + 1) = lkUp ws rs i ++ lkAt ws rs i := by
  unfold lkUp
  rw [List.range_succ, List.flatMap_append, List.flatMap_cons, List.flatMap_nil, List.append_nil]
theorem lkAt_len (ws : List Wi) (rs : List Rg) (i : Nat) : (lkAt ws rs i).length ≤ 2 := by
  unfold lkAt
  split
  · rename_i x r _ _
    rw [List.length_append]
    have := loL_len x i r.1
    have := hiL_len x i r.2
    omega
  · exact Nat.zero_le _
theorem lkUp_len (ws : List Wi) (rs : List Rg) : ∀ i, (lkUp ws rs i).length ≤ 2 * i
  | 0 => Nat.le_refl _
  | i + 1 => by
    rw [lkUp_succ, List.length_append]
    have := lkUp_len ws rs i
    have := lkAt_len ws rs i
    omega
def LkOk (n : Nat) (e : Lk) : Prop := e.a < n ∧ e.b < n ∧ e.a ≠ e.b
theorem lkUp_mem {ws : List Wi} {rs : List Rg} {i : Nat} {e : Lk} (h : e ∈ lkUp ws rs i) : ∃ j x r, j < i ∧ ws[j]? = some x ∧ rs[j]? = some r ∧ ((∃ lo, r.1 = some lo ∧ e = ⟨x.t, x.h, -lo, j, 1⟩) ∨ ∃ hi, r.2 = some hi ∧ e = ⟨x.h, x.t, hi, j, -1⟩) := by
  unfold lkUp at h
  obtain ⟨j, hj, h⟩ := List.mem_flatMap.mp h
  rw [List.mem_range] at hj
  unfold lkAt at h
  cases hw : ws[j]? with
  | none => rw [hw] at h; cases h
  | some x =>
    cases hr : rs[j]? with
    | none => rw [hw, hr] at h; cases h
    | some r =>
      rw [hw, hr] at h
      obtain ⟨r1, r2⟩ := r
      rcases List.mem_append.mp h with h | h
      · cases r1 with
        | none => cases h
        | some lo => exact ⟨j, x, _, hj, hw, hr, .inl ⟨lo, rfl, List.mem_singleton.mp h⟩⟩
      · cases r2 with
        | none => cases h
        | some hi => exact ⟨j, x, _, hj, hw, hr, .inr ⟨hi, rfl, List.mem_singleton.mp h⟩⟩
theorem mem_lkUp {ws : List Wi} {rs : List Rg} {i j : Nat} {x : Wi} {r : Rg} (hj : j < i) (hw : ws[j]? = some x) (hr : rs[j]? = some r) :
    (∀ lo, r.1 = some lo → (⟨x.t, x.h, -lo, j, 1⟩ : Lk) ∈ lkUp ws rs i) ∧ ∀ hi, r.2 = some hi → (⟨x.h, x.t, hi, j, -1⟩ : Lk) ∈ lkUp ws rs i := by
  obtain ⟨r1, r2⟩ := r
  refine ⟨fun lo h => ?_, fun hi h => ?_⟩
  · unfold lkUp
    refine List.mem_flatMap.mpr ⟨j, List.mem_range.mpr hj, ?_⟩
    unfold lkAt
    rw [hw, hr]
    show _ ∈ loL x j r1 ++ _
    rw [show r1 = some lo from h]
    exact List.mem_append_left _ (List.mem_singleton.mpr rfl)
  · unfold lkUp
    refine List.mem_flatMap.mpr ⟨j, List.mem_range.mpr hj, ?_⟩
    unfold lkAt
    rw [hw, hr]
    show _ ∈ _ ++ hiL x j r2
    rw [show r2 = some hi from h]
    exact List.mem_append_right _ (List.mem_singleton.mpr rfl)
theorem links_ok {n : NetD} {rs : List Rg} (hn : n.ok) {i : Nat} : ∀ e ∈ lkUp n.ws rs i, LkOk n.k e := fun e he => by
  obtain ⟨j, x, r, hj, hw, hr, h⟩ := lkUp_mem he
  have hx := List.all_eq_true.mp hn.2.2.2 x (List.mem_of_getElem? hw)
  unfold Wi.ok at hx
  rw [Bool.and_eq_true, Bool.and_eq_true, Bool.and_eq_true, decide_eq_true_eq, decide_eq_true_eq, decide_eq_true_eq] at hx
  obtain ⟨⟨⟨h1, h2⟩, h3⟩, h4⟩ := hx
  rcases h with ⟨lo, _, rfl⟩ | ⟨hi, _, rfl⟩
  · exact ⟨h1, h2, h3⟩
  · exact ⟨h2, h1, fun z => h3 z.symm⟩
/-! ### the search, step by step, with the times of the last changes -/
structure GS where
  far : Far
  ah : Ahd
  tm : Nat → Nat
def gstep (s : Nat) (g : GS) (e : Lk) : GS := if better g.far e = true then ⟨up g.far e.b (some ((g.far e.a).getD 0 + e.l)), up g.ah e.b (some (e.a, e.w, e.y)), up g.tm e.b (s + 1)⟩ else g
def lkN (ls : List Lk) (s : Nat) : Lk := ls.getD (s % ls.length) default
def runG (ls : List Lk) (far0 : Far) : Nat → GS
  | 0 => ⟨far0, fun _ => none, fun _ => 0⟩
  | s + 1 => gstep s (runG ls far0 s) (lkN ls s)
theorem better_iff {far : Far} {e : Lk} : better far e = true ↔ ∃ x, far e.a = some x ∧ ∀ z, far e.b = some z → x + e.l < z := by
  unfold better
  cases h : far e.a with
  | none => exact ⟨fun z => (nomatch z), fun ⟨x, z, _⟩ => nomatch z⟩
  | some x =>
    cases h2 : far e.b with
    | none => exact ⟨fun _ => ⟨x, rfl, fun z w => nomatch w⟩, fun _ => rfl⟩
    | some z =>
      show decide (x + e.l < z) = true ↔ _
      rw [decide_eq_true_eq]
      exact ⟨fun w => ⟨x, rfl, fun z' e' => by cases e'; exact w⟩, fun ⟨x', e1, w⟩ => by cases e1; exact w z rfl⟩
theorem not_better {far : Far} {e : Lk} {x : Int} (h : ¬ better far e = true) (hx : far e.a = some x) : ∃ z, far e.b = some z ∧ z ≤ x + e.l := by
  cases h2 : far e.b with
  | none => exact absurd (better_iff.mpr ⟨x, hx, fun z w => by rw [h2] at w; cases w⟩) h
  | some z =>
    refine ⟨z, rfl, ?_⟩
    by_cases w : x + e.l < z
    · exact absurd (better_iff.mpr ⟨x, hx, fun z' w' => by rw [h2] at w'; cases w'; exact w⟩) h
    · omega
theorem lkN_mem {ls : List Lk} (h : ls ≠ []) (s : Nat) : lkN ls s ∈ ls := by
  have hl : 0 < ls.length := List.length_pos_iff.mpr h
  have hm : s % ls.length < ls.length := Nat.mod_lt _ hl
  unfold lkN
  rw [List.getD_eq_getElem?_getD, List.getElem?_eq_getElem hm]
  exact List.getElem_mem hm
/-- all that stays true -/
structure GInv (ls : List Lk) (far0 : Far) (s : Nat) (g : GS) : Prop where
  tm0 : ∀ v, g.tm v = 0 → g.far v = far0 v ∧ g.ah v = none
  tm1 : ∀ v, g.tm v ≠ 0 → ∃ e ∈ ls, e.b = v ∧ g.ah v = some (e.a, e.w, e.y) ∧ ∃ x z, g.far v = some x ∧ g.far e.a = some z ∧ z + e.l ≤ x ∧ (g.tm v < g.tm e.a → z + e.l < x) ∧ g.tm v ≤ g.tm e.a + ls.length
  top : ∀ v, g.tm v ≤ s
  inj : ∀ v w, g.tm v = g.tm w → g.tm v ≠ 0 → v = w
  seen : ∀ j, j < s → ∀ z, g.far (lkN ls j).a = some z → g.tm (lkN ls j).a ≤ j → ∃ x, g.far (lkN ls j).b = some x ∧ x ≤ z + (lkN ls j).l
theorem runG_inv {n : Nat} {ls : List Lk} (h0 : ls ≠ []) (hl : ∀ e ∈ ls, LkOk n e) (far0 : Far) : ∀ s, GInv ls far0 s (runG ls far0 s)
  | 0 => ⟨fun v _ => ⟨rfl, rfl⟩, fun v h => absurd rfl h, fun v => Nat.le_refl _, fun v w _ h => absurd rfl h, fun j h => absurd h (Nat.not_lt_zero _)⟩
  | s + 1 => by
    have I := runG_inv h0 hl far0 s
    show GInv ls far0 (s + 1) (gstep s (runG ls far0 s) (lkN ls s))
    generalize hg : runG ls far0 s = g at I
    have hem := lkN_mem h0 s
    have hne := (hl _ hem).2.2
    generalize he : lkN ls s = e at hem hne
    unfold gstep
    by_cases hb : better g.far e = true
    · rw [if_pos hb]
      obtain ⟨x, hx, hlt⟩ := better_iff.mp hb
      have hxl : (g.far e.a).getD 0 = x := by rw [hx]; rfl
      rw [hxl]
      have htmb : g.tm e.b < s + 1 := Nat.lt_succ_of_le (I.top _)
      refine ⟨fun v h => ?_, fun v h => ?_, fun v => ?_, fun v w h1 h2 => ?_, fun j hj z hz ht => ?_⟩
      · by_cases hv : v = e.b
        · subst hv
          have h' : up g.tm e.b (s + 1) e.b = 0 := h
          rw [up_same] at h'
          exact absurd h' (Nat.succ_ne_zero _)
        · have h' : up g.tm e.b (s + 1) v = 0 := h
          rw [up_ne hv] at h'
          show up g.far e.b _ v = _ ∧ up g.ah e.b _ v = _
          rw [up_ne hv, up_ne hv]
          exact I.tm0 v h'
      · by_cases hv : v = e.b
        · subst hv
          refine ⟨e, hem, rfl, up_same _ _ _, x + e.l, x, up_same _ _ _, ?_, Int.le_refl _, fun w => ?_, ?_⟩
          · show up g.far e.b _ e.a = _
            rw [up_ne hne]
            exact hx
          · have w' : up g.tm e.b (s + 1) e.b < up g.tm e.b (s + 1) e.a := w
            rw [up_same, up_ne hne] at w'
            exact absurd (I.top e.a) (by omega)
          · show up g.tm e.b (s + 1) e.b ≤ up g.tm e.b (s + 1) e.a + ls.length
            rw [up_same, up_ne hne]
            by_cases hs : s < ls.length
            · omega
            · have hp : 0 < ls.length := List.length_pos_iff.mpr h0
              have hE : lkN ls (s - ls.length) = e := by
                rw [← he]
                unfold lkN
                have : (s - ls.length) % ls.length = s % ls.length := (Nat.mod_eq_sub_mod (by omega)).symm
                rw [this]
              by_cases hq : g.tm e.a ≤ s - ls.length
              · obtain ⟨x', h1, h2⟩ := I.seen (s - ls.length) (by omega) x (by rw [hE]; exact hx) (by rw [hE]; exact hq)
                rw [hE] at h1 h2
                have := hlt x' h1
                omega
              · omega
        · have h' : up g.tm e.b (s + 1) v ≠ 0 := h
          rw [up_ne hv] at h'
          obtain ⟨e', he', hb', ha', x', z', h1, h2, h3, h4, h5⟩ := I.tm1 v h'
          by_cases hp : e'.a = e.b
          · have hzx : x + e.l < z' := hlt z' (by rw [← hp]; exact h2)
            refine ⟨e', he', hb', ?_, x', x + e.l, ?_, ?_, by omega, fun _ => by omega, ?_⟩
            · show up g.ah e.b _ v = _
              rw [up_ne hv]
              exact ha'
            · show up g.far e.b _ v = _
              rw [up_ne hv]
              exact h1
            · show up g.far e.b _ e'.a = _
              rw [hp, up_same]
            · show up g.tm e.b (s + 1) v ≤ up g.tm e.b (s + 1) e'.a + ls.length
              rw [up_ne hv, hp, up_same]
              have := I.top v
              omega
          · refine ⟨e', he', hb', ?_, x', z', ?_, ?_, h3, fun w => ?_, ?_⟩
            · show up g.ah e.b _ v = _
              rw [up_ne hv]
              exact ha'
            · show up g.far e.b _ v = _
              rw [up_ne hv]
              exact h1
            · show up g.far e.b _ e'.a = _
              rw [up_ne hp]
              exact h2
            · have w' : up g.tm e.b (s + 1) v < up g.tm e.b (s + 1) e'.a := w
              rw [up_ne hv, up_ne hp] at w'
              exact h4 w'
            · show up g.tm e.b (s + 1) v ≤ up g.tm e.b (s + 1) e'.a + ls.length
              rw [up_ne hv, up_ne hp]
              exact h5
      · show up g.tm e.b (s + 1) v ≤ s + 1
        by_cases hv : v = e.b
        · rw [hv, up_same]
          exact Nat.le_refl _
        · rw [up_ne hv]
          exact Nat.le_succ_of_le (I.top v)
      · have h1' : up g.tm e.b (s + 1) v = up g.tm e.b (s + 1) w := h1
        have h2' : up g.tm e.b (s + 1) v ≠ 0 := h2
        by_cases hv : v = e.b
        · by_cases hw : w = e.b
          · rw [hv, hw]
          · rw [hv, up_same, up_ne hw] at h1'
            have := I.top w
            omega
        · by_cases hw : w = e.b
          · rw [hw, up_same, up_ne hv] at h1'
            have := I.top v
            omega
          · rw [up_ne hv, up_ne hw] at h1'
            rw [up_ne hv] at h2'
            exact I.inj v w h1' h2'
      · have hz' : up g.far e.b (some (x + e.l)) (lkN ls j).a = some z := hz
        have ht' : up g.tm e.b (s + 1) (lkN ls j).a ≤ j := ht
        by_cases ha : (lkN ls j).a = e.b
        · rw [ha, up_same] at ht'
          omega
        · rw [up_ne ha] at hz' ht'
          by_cases hjs : j = s
          · subst hjs
            rw [he] at hz' ⊢
            rw [hx] at hz'
            cases hz'
            exact ⟨x + e.l, up_same _ _ _, Int.le_refl _⟩
          · obtain ⟨x', h1, h2⟩ := I.seen j (by omega) z hz' ht'
            by_cases hb' : (lkN ls j).b = e.b
            · have := hlt x' (by rw [← hb']; exact h1)
              refine ⟨x + e.l, ?_, by omega⟩
              show up g.far e.b _ (lkN ls j).b = _
              rw [hb', up_same]
            · refine ⟨x', ?_, h2⟩
              show up g.far e.b _ (lkN ls j).b = _
              rw [up_ne hb']
              exact h1
    · rw [if_neg hb]
      refine ⟨I.tm0, I.tm1, fun v => Nat.le_succ_of_le (I.top v), I.inj, fun j hj z hz ht => ?_⟩
      by_cases hjs : j = s
      · subst hjs
        rw [he] at hz ⊢
        exact not_better hb hz
      · exact I.seen j (by omega) z hz ht
end RN
end

section
set_option Elab.async false
set_option linter.all false
set_option maxRecDepth 100000
set_option maxHeartbeats 2000000
/-! RN_BF: what the search finds. -/
namespace RN
open PySem
def pre (ah : Ahd) (v : Nat) : Nat := match ah v with
  | some p => p.1
  | none => 0
def bk (ah : Ahd) : Nat → Nat → Nat
  | 0, v => v
  | i + 1, v => pre ah (bk ah i v)
theorem bk_add (ah : Ahd) (v : Nat) : ∀ i j, bk ah (i + j) v = bk ah i (bk ah j v)
  | 0, j => by rw [Nat.zero_add]; rfl
  | i + 1, j => by
    rw [Nat.add_right_comm]
    show pre ah (bk ah (i + j) v) = pre ah (bk ah i (bk ah j v))
    rw [bk_add ah v i j]
section
variable {n : Nat} {ls : List Lk} {far0 : Far}
theorem take_fold (h0 : ls ≠ []) (t : Nat) : ∀ i, i ≤ ls.length → ∃ b, (ls.take i).foldl relax ⟨(runG ls far0 (t * ls.length)).far, (runG ls far0 (t * ls.length)).ah, none⟩ = b ∧ b.far = (runG ls far0 (t * ls.length + i)).far ∧ b.ah = (runG ls far0 (t * ls.length + i)).ah ∧
    (∀ v, b.fd = some v → t * ls.length < (runG ls far0 (t * ls.length + i)).tm v) ∧ (b.fd = none → runG ls far0 (t * ls.length + i) = runG ls far0 (t * ls.length) ∧ ∀ j e, j < i → ls[j]? = some e → ¬ better (runG ls far0 (t * ls.length)).far e = true)
  | 0, _ => ⟨_, rfl, rfl, rfl, fun v h => (by cases h), fun _ => ⟨rfl, fun j e h => absurd h (Nat.not_lt_zero _)⟩⟩
  | i + 1, hi => by
    obtain ⟨b, hb, h1, h2, h3, h4⟩ := take_fold h0 t i (by omega)
    have hp : 0 < ls.length := List.length_pos_iff.mpr h0
    have he : lkN ls (t * ls.length + i) = ls[i] := by
      unfold lkN
      rw [Nat.add_comm, Nat.add_mul_mod_self_right, Nat.mod_eq_of_lt (by omega), List.getD_eq_getElem?_getD, List.getElem?_eq_getElem (show i < ls.length by omega)]
      rfl
    have hr : runG ls far0 (t * ls.length + (i + 1)) = gstep (t * ls.length + i) (runG ls far0 (t * ls.length + i)) ls[i] := by
      rw [← he]
      rfl
    rw [List.take_add_one, List.getElem?_eq_getElem (show i < ls.length by omega), List.foldl_append, hb, hr]
    show ∃ c, relax b ls[i] = c ∧ _
    refine ⟨_, rfl, ?_⟩
    unfold relax gstep
    rw [← h1, ← h2]
    by_cases hbt : better b.far ls[i] = true
    · rw [if_pos hbt, if_pos hbt]
      refine ⟨rfl, rfl, fun v hv => ?_, fun h => nomatch h⟩
      have hv' : ls[i].b = v := Option.some.inj hv
      show t * ls.length < up _ ls[i].b _ v
      rw [hv', up_same]
      omega
    · rw [if_neg hbt, if_neg hbt]
      refine ⟨h1, h2, h3, fun h => ⟨(h4 h).1, fun j e hj hje => ?_⟩⟩
      by_cases hji : j = i
      · subst hji
        rw [List.getElem?_eq_getElem (show j < ls.length by omega)] at hje
        cases hje
        rw [← (h4 h).1, ← h1]
        exact hbt
      · exact (h4 h).2 j e (by omega) hje
theorem bf_run (h0 : ls ≠ []) : ∀ t, (bfAt ls far0 t).far = (runG ls far0 (t * ls.length)).far ∧ (bfAt ls far0 t).ah = (runG ls far0 (t * ls.length)).ah
  | 0 => by
    rw [Nat.zero_mul]
    exact ⟨rfl, rfl⟩
  | t + 1 => by
    obtain ⟨e1, e2⟩ := bf_run h0 t
    obtain ⟨b, hb, h1, h2, h3, h4⟩ := take_fold (far0 := far0) h0 t ls.length (Nat.le_refl _)
    rw [List.take_length] at hb
    show (shortM ls (bfAt ls far0 t).far (bfAt ls far0 t).ah).far = _ ∧ (shortM ls (bfAt ls far0 t).far (bfAt ls far0 t).ah).ah = _
    unfold shortM
    rw [e1, e2, hb, h1, h2, Nat.succ_mul]
    exact ⟨rfl, rfl⟩
/-- the last change of a round -/
theorem bf_fd (h0 : ls ≠ []) (t : Nat) : (∀ v, (bfAt ls far0 (t + 1)).fd = some v → t * ls.length < (runG ls far0 ((t + 1) * ls.length)).tm v) ∧
    ((bfAt ls far0 (t + 1)).fd = none → (bfAt ls far0 (t + 1)).far = (bfAt ls far0 t).far ∧ (bfAt ls far0 (t + 1)).ah = (bfAt ls far0 t).ah ∧ ∀ e ∈ ls, ¬ better (bfAt ls far0 t).far e = true) := by
  obtain ⟨e1, e2⟩ := bf_run (far0 := far0) h0 t
  obtain ⟨b, hb, h1, h2, h3, h4⟩ := take_fold (far0 := far0) h0 t ls.length (Nat.le_refl _)
  rw [List.take_length] at hb
  have hs : bfAt ls far0 (t + 1) = b := by
    show shortM ls (bfAt ls far0 t).far (bfAt ls far0 t).ah = b
    unfold shortM
    rw [e1, e2, hb]
  rw [hs]
  refine ⟨fun v hv => ?_, fun h => ?_⟩
  · rw [Nat.succ_mul]
    exact h3 v hv
  · obtain ⟨q1, q2⟩ := h4 h
    rw [h1, h2, q1, e1, e2]
    refine ⟨rfl, rfl, fun e he => ?_⟩
    obtain ⟨j, hj, rfl⟩ := List.getElem_of_mem he
    exact q2 j _ hj (List.getElem?_eq_getElem hj)
theorem bf_fd0 (h0 : ls = []) (t : Nat) : (bfAt ls far0 t).fd = none ∧ (bfAt ls far0 t).far = far0 ∧ (bfAt ls far0 t).ah = fun _ => none := by
  subst h0
  induction t with
  | zero => exact ⟨rfl, rfl, rfl⟩
  | succ t ih => exact ⟨rfl, ih.2.1, ih.2.2⟩
/-- far respects the links -/
def Feas (ls : List Lk) (far : Far) : Prop := ∀ e ∈ ls, ∀ z, far e.a = some z → ∃ x, far e.b = some x ∧ x ≤ z + e.l
theorem bf_feas {t : Nat} (h : (bfAt ls far0 (t + 1)).fd = none) : Feas ls (bfAt ls far0 t).far ∧ (bfAt ls far0 (t + 1)).far = (bfAt ls far0 t).far ∧ (bfAt ls far0 (t + 1)).ah = (bfAt ls far0 t).ah := by
  by_cases h0 : ls = []
  · obtain ⟨_, q1, q2⟩ := bf_fd0 (far0 := far0) h0 t
    obtain ⟨_, q3, q4⟩ := bf_fd0 (far0 := far0) h0 (t + 1)
    exact ⟨fun e he => (by rw [h0] at he; exact absurd he List.not_mem_nil), q3.trans q1.symm, q4.trans q2.symm⟩
  · obtain ⟨q1, q2, q3⟩ := (bf_fd (far0 := far0) h0 t).2 h
    exact ⟨fun e he z hz => not_better (q3 e he) hz, q1, q2⟩
/-- where a knot was changed late, the way back is long -/
theorem chase (hl : ∀ e ∈ ls, LkOk n e) {s : Nat} {g : GS} (I : GInv ls far0 s g) {v : Nat} {i : Nat} (h : i * ls.length < g.tm v) : ∀ j, j ≤ i → g.tm v ≤ g.tm (bk g.ah j v) + j * ls.length ∧ g.tm (bk g.ah j v) ≠ 0
  | 0, _ => by
    rw [Nat.zero_mul]
    exact ⟨Nat.le_refl _, by show g.tm v ≠ 0; omega⟩
  | j + 1, hj => by
    obtain ⟨h1, h2⟩ := chase hl I h j (by omega)
    obtain ⟨e, he, hb, ha, x, z, _, _, _, _, h5⟩ := I.tm1 _ h2
    have hp : bk g.ah (j + 1) v = e.a := by
      show pre g.ah (bk g.ah j v) = e.a
      unfold pre
      rw [ha]
    have hm : (j + 1) * ls.length ≤ i * ls.length := Nat.mul_le_mul_right _ hj
    rw [hp]
    rw [Nat.succ_mul] at hm ⊢
    refine ⟨by omega, by omega⟩
/-- n + 1 numbers below n: two are one -/
theorem pigeon (n : Nat) (p : Nat → Nat) (h : ∀ i, i ≤ n → p i < n) : ∃ i j, i < j ∧ j ≤ n ∧ p i = p j := by
  induction n generalizing p with
  | zero => exact absurd (h 0 (Nat.le_refl _)) (Nat.not_lt_zero _)
  | succ n ih =>
    by_cases hq : ∃ i, i ≤ n ∧ p i = p (n + 1)
    · obtain ⟨i, h1, h2⟩ := hq
      exact ⟨i, n + 1, by omega, Nat.le_refl _, h2⟩
    · have hq' : ∀ i, i ≤ n → p i ≠ p (n + 1) := fun i hi e => hq ⟨i, hi, e⟩
      have hlast := h (n + 1) (Nat.le_refl _)
      obtain ⟨i, j, h1, h2, h3⟩ := ih (fun i => if p i = n then p (n + 1) else p i) (fun i hi => by
        have h1 := h i (by omega)
        have h2 := hq' i hi
        show (if p i = n then p (n + 1) else p i) < n
        split
        · omega
        · omega)
      have h3' : (if p i = n then p (n + 1) else p i) = (if p j = n then p (n + 1) else p j) := h3
      have q1 := hq' i (by omega)
      have q2 := hq' j (by omega)
      refine ⟨i, j, h1, by omega, ?_⟩
      split at h3' <;> split at h3' <;> omega
theorem least (P : Nat → Prop) (m : Nat) (h : P m) : ∃ k, k ≤ m ∧ P k ∧ ∀ j, j < k → ¬ P j := by
  induction m using Nat.strongRecOn with
  | _ m ih =>
    by_cases q : ∃ j, j < m ∧ P j
    · obtain ⟨j, h1, h2⟩ := q
      obtain ⟨k, h3, h4, h5⟩ := ih j h1 h2
      exact ⟨k, by omega, h4, h5⟩
    · exact ⟨m, Nat.le_refl _, h, fun j hj hp => q ⟨j, hj, hp⟩⟩
/-- going back n times all along changed knots ends in a ring -/
theorem ring (ah : Ahd) (C : Nat → Prop) (hn : ∀ v, C v → v < n) (v : Nat) (h : ∀ i, i ≤ n → C (bk ah i v)) : (∀ i, C (bk ah i v)) ∧ ∃ m, 1 ≤ m ∧ m ≤ n ∧ bk ah m (bk ah n v) = bk ah n v ∧ ∀ j, 1 ≤ j → j < m → bk ah j (bk ah n v) ≠ bk ah n v := by
  obtain ⟨i, j, hij, hj, e⟩ := pigeon n (fun i => bk ah i v) fun i hi => hn _ (h i hi)
  replace e : bk ah i v = bk ah j v := e
  refine ⟨fun q => ?_, ?_⟩
  · induction q using Nat.strongRecOn with
    | _ q ih =>
      by_cases hq : q ≤ n
      · exact h q hq
      · have : bk ah q v = bk ah (q - (j - i)) v := by
          rw [show q = (q - j) + j by omega, bk_add, ← e, ← bk_add]
          congr 1
          omega
        rw [this]
        exact ih _ (by omega)
  · have hp : bk ah (j - i) (bk ah n v) = bk ah n v := by
      rw [← bk_add, show j - i + n = (n - i) + j by omega, bk_add, ← e, ← bk_add]
      congr 1
      omega
    obtain ⟨k, h1, ⟨h2, h3⟩, h4⟩ := least (fun m => 1 ≤ m ∧ bk ah m (bk ah n v) = bk ah n v) (j - i) ⟨by omega, hp⟩
    exact ⟨k, h2, by omega, h3, fun q hq1 hq2 hq3 => h4 q hq2 ⟨hq1, hq3⟩⟩
/-- the links of the way back -/
theorem back_links {s : Nat} {g : GS} (I : GInv ls far0 s g) (v : Nat) : ∃ f : Nat → Lk, ∀ i, g.tm (bk g.ah i v) ≠ 0 → f i ∈ ls ∧ (f i).b = bk g.ah i v ∧ (f i).a = bk g.ah (i + 1) v ∧ g.ah (bk g.ah i v) = some ((f i).a, (f i).w, (f i).y) ∧
    ∃ x z, g.far (bk g.ah i v) = some x ∧ g.far (bk g.ah (i + 1) v) = some z ∧ z + (f i).l ≤ x ∧ (g.tm (bk g.ah i v) < g.tm (bk g.ah (i + 1) v) → z + (f i).l < x) := by
  have q : ∀ i, ∃ e : Lk, g.tm (bk g.ah i v) ≠ 0 → e ∈ ls ∧ e.b = bk g.ah i v ∧ e.a = bk g.ah (i + 1) v ∧ g.ah (bk g.ah i v) = some (e.a, e.w, e.y) ∧
      ∃ x z, g.far (bk g.ah i v) = some x ∧ g.far (bk g.ah (i + 1) v) = some z ∧ z + e.l ≤ x ∧ (g.tm (bk g.ah i v) < g.tm (bk g.ah (i + 1) v) → z + e.l < x) := fun i => by
    by_cases h : g.tm (bk g.ah i v) = 0
    · exact ⟨default, fun w => absurd h w⟩
    · obtain ⟨e, he, hb, ha, x, z, h1, h2, h3, h4, _⟩ := I.tm1 _ h
      have hp : bk g.ah (i + 1) v = e.a := by
        show pre g.ah (bk g.ah i v) = e.a
        unfold pre
        rw [ha]
      exact ⟨e, fun _ => ⟨he, hb, hp.symm, ha, x, z, h1, by rw [hp]; exact h2, h3, by rw [hp]; exact h4⟩⟩
  exact ⟨fun i => Classical.choose (q i), fun i => Classical.choose_spec (q i)⟩
def psum (f : Nat → Int) : Nat → Int
  | 0 => 0
  | i + 1 => psum f i + f i
/-- a ring of the way back is shorter than nothing -/
theorem ring_neg (hl : ∀ e ∈ ls, LkOk n e) {s : Nat} {g : GS} (I : GInv ls far0 s g) {k : Nat} (hC : ∀ i, g.tm (bk g.ah i k) ≠ 0) {m : Nat} (hm : 1 ≤ m) (hr : bk g.ah m k = k) {f : Nat → Lk}
    (hf : ∀ i, g.tm (bk g.ah i k) ≠ 0 → f i ∈ ls ∧ (f i).b = bk g.ah i k ∧ (f i).a = bk g.ah (i + 1) k ∧ g.ah (bk g.ah i k) = some ((f i).a, (f i).w, (f i).y) ∧
      ∃ x z, g.far (bk g.ah i k) = some x ∧ g.far (bk g.ah (i + 1) k) = some z ∧ z + (f i).l ≤ x ∧ (g.tm (bk g.ah i k) < g.tm (bk g.ah (i + 1) k) → z + (f i).l < x)) :
    psum (fun i => (f i).l) m < 0 ∧ ∃ i, i < m ∧ ∃ x z, g.far (f i).b = some x ∧ g.far (f i).a = some z ∧ z + (f i).l < x := by
  have hstrict : ∃ i, i < m ∧ g.tm (bk g.ah i k) < g.tm (bk g.ah (i + 1) k) := by
    by_cases q : ∃ i, i < m ∧ g.tm (bk g.ah i k) < g.tm (bk g.ah (i + 1) k)
    · exact q
    · have dec : ∀ i, i < m → g.tm (bk g.ah (i + 1) k) ≤ g.tm (bk g.ah i k) := fun i hi => Nat.le_of_not_lt fun w => q ⟨i, hi, w⟩
      have all : ∀ i, i ≤ m → 1 ≤ i → g.tm (bk g.ah i k) ≤ g.tm (bk g.ah 1 k) := fun i => by
        induction i with
        | zero => intro _ h; omega
        | succ i ih =>
          intro h1 h2
          by_cases hi : i = 0
          · subst hi
            exact Nat.le_refl _
          · exact Nat.le_trans (dec i (by omega)) (ih (by omega) (by omega))
      have e1 := all m (Nat.le_refl _) hm
      rw [hr] at e1
      have e2 := dec 0 (by omega)
      have e3 : g.tm (bk g.ah 0 k) = g.tm (bk g.ah 1 k) := Nat.le_antisymm e1 e2
      have e4 := I.inj _ _ e3 (hC 0)
      obtain ⟨h1, h2, h3, _⟩ := hf 0 (hC 0)
      exact absurd (h3.trans (e4.symm.trans h2.symm)) (hl _ h1).2.2
  have tele : ∀ i, ∀ x0 xi, g.far (bk g.ah 0 k) = some x0 → g.far (bk g.ah i k) = some xi → psum (fun i => (f i).l) i ≤ x0 - xi ∧ ((∃ j, j < i ∧ g.tm (bk g.ah j k) < g.tm (bk g.ah (j + 1) k)) → psum (fun i => (f i).l) i < x0 - xi) := fun i => by
    induction i with
    | zero =>
      intro x0 xi h1 h2
      rw [h1] at h2
      cases h2
      refine ⟨?_, fun ⟨j, hj, _⟩ => absurd hj (Nat.not_lt_zero _)⟩
      show (0 : Int) ≤ x0 - x0
      omega
    | succ i ih =>
      intro x0 xi h1 h2
      obtain ⟨_, _, _, _, x, z, q1, q2, q3, q4⟩ := hf i (hC i)
      rw [h2] at q2
      cases q2
      obtain ⟨r1, r2⟩ := ih x0 x h1 q1
      show psum _ i + (f i).l ≤ _ ∧ (_ → psum _ i + (f i).l < _)
      refine ⟨by omega, fun ⟨j, hj, hj2⟩ => ?_⟩
      by_cases hji : j = i
      · subst hji
        have := q4 hj2
        omega
      · have := r2 ⟨j, by omega, hj2⟩
        omega
  obtain ⟨_, _, _, _, x0, _, q1, _⟩ := hf 0 (hC 0)
  refine ⟨?_, ?_⟩
  · have := (tele m x0 x0 q1 (by rw [hr]; exact q1)).2 hstrict
    omega
  · obtain ⟨i, hi, hi2⟩ := hstrict
    obtain ⟨_, h2, h3, _, x, z, q1, q2, _, q4⟩ := hf i (hC i)
    exact ⟨i, hi, x, z, by rw [h2]; exact q1, by rw [h3]; exact q2, q4 hi2⟩
end
end RN
end

section
set_option Elab.async false
set_option linter.all false
set_option maxRecDepth 100000
set_option maxHeartbeats 2000000
/-! RN_Core6: dicts, cells read and stored, equality of data. -/
namespace RN
open PySem PySem.Spec L2
section
variable {W : Wd} {σ : L2.St} {H H' : Hp} {ρ : List Sl} {μ : List Cell}
variable {te ta tb td ty tv tl ti : TE} {tt : TT} {P Pa Pb : D → Prop} {PB : Bool → Prop} {N : List Sl → List Cell → Prop} {R : D → List Cell → Prop} {ts t2 : TS} {g : TG}
theorem ixN_of {n k : Nat} (h : k < n) : ixN n (k : Int) = some k := by
  unfold ixN
  rw [if_pos (by omega), if_pos (by omega)]
  simp
/-! ### a cell as data, for a moment -/
def dropC : Sl → Sl
  | .c _ => .no
  | .s _ _ => .no
  | .d x => .d x
  | .no => .no
def lookR (ρ : List Sl) (i : Nat) (x : D) : List Sl := (ρ.map dropC).set i (.d x)
theorem Stt.look {i j : Nat} {c : Cell} (s : Stt W σ H ρ μ) (hr : ρ[i]? = some (.c j)) (hm : μ[j]? = some c) (hc : c.isUrn = false) : ∃ U, Stt ⟨W.CN, U, U, [], 0⟩ σ H (lookR ρ i c.dat) [] := by
  obtain ⟨a, ha, hσ⟩ := s.sl i _ hr
  obtain ⟨a', ha', hcell⟩ := s.sto.cell j c hm
  rw [ha] at ha'
  cases ha'
  have hi : i < ρ.length := (List.getElem?_eq_some_iff.mp hr).1
  have hU : ∀ b, (W.U b ∧ b ≠ a) → W.U b := fun b z => z.1
  refine ⟨fun b => W.U b ∧ b ≠ a, ⟨fun j c h => by simp at h, fun b h => s.sto.uok b h.1, fun b h => h, fun b h => by simp at h, List.nodup_nil, rfl, Nat.le_refl _⟩, fun k x h => ?_, ?_⟩
  · unfold lookR at h
    by_cases hk : k = i
    · subst hk
      rw [List.getElem?_set_self (by rw [List.length_map]; exact hi)] at h
      cases h
      refine ⟨.ref a, hσ, ?_⟩
      have nU : ¬ (W.U a ∧ a ≠ a) := fun z => z.2 rfl
      cases c with
      | urn => cases hc
      | ml ds => obtain ⟨xs, e, r⟩ := hcell; exact ⟨a, xs, rfl, nU, e, r.weak hU⟩
      | ah m f => obtain ⟨xs, e, r⟩ := hcell; exact ⟨a, xs, rfl, nU, e, r.mapU fun _ _ _ _ z => z.weak hU⟩
      | dt m f => obtain ⟨xs, e, r⟩ := hcell; exact ⟨a, xs, rfl, nU, e, r⟩
      | tab q => cases hc
    · rw [List.getElem?_set_ne (Ne.symm hk), List.getElem?_map] at h
      cases q : ρ[k]? with
      | none => rw [q] at h; cases h
      | some y =>
        rw [q] at h
        cases h
        cases y with
        | no => trivial
        | c l => trivial
        | s K ns => trivial
        | d z =>
          obtain ⟨v, q1, q2⟩ := s.sl k _ q
          exact ⟨v, q1, q2.weak hU⟩
  · unfold lookR
    rw [List.length_set, List.length_map]
    exact s.len
theorem flat_any {CN : Addr} {U U' : Addr → Prop} {d : D} {v : V} (h : d.flat = true) (r : Rp CN U H d v) : Rp CN U' H d v := by
  cases d <;> first | exact r | cases h
theorem ev_look {i j : Nat} {c : Cell} (hr : ρ[i]? = some (.c j)) (hm : μ[j]? = some c) (hc : c.isUrn = false) (h : ∀ U, EvP ⟨W.CN, U, U, [], 0⟩ te (lookR ρ i c.dat) [] P) (hf : ∀ d, P d → d.flat = true) : EvP W te ρ μ P := fun σ H s Q q => by
  obtain ⟨U, s'⟩ := s.look hr hm hc
  refine h U σ H s' Q fun v H' d e s1 r p => ?_
  have sm : Same H H' := fun a o z => e a o (by simp) z
  exact q v H' d (Ch.of sm) (s.same sm) (flat_any (hf d p) r) p
theorem ev_look1 {i j : Nat} {c : Cell} {d : D} (hr : ρ[i]? = some (.c j)) (hm : μ[j]? = some c) (hc : c.isUrn = false) (h : ∀ U, EvP ⟨W.CN, U, U, [], 0⟩ te (lookR ρ i c.dat) [] (Is d)) (hf : d.flat = true) : EvP W te ρ μ (Is d) := ev_look hr hm hc h fun d' e => by
  rw [show d' = d from e]
  exact hf
theorem eb_look {i j : Nat} {c : Cell} (hr : ρ[i]? = some (.c j)) (hm : μ[j]? = some c) (hc : c.isUrn = false) (h : ∀ U, EvB ⟨W.CN, U, U, [], 0⟩ tt (lookR ρ i c.dat) [] PB) : EvB W tt ρ μ PB := fun σ H s Q q => by
  obtain ⟨U, s'⟩ := s.look hr hm hc
  refine h U σ H s' Q fun b H' e s1 p => ?_
  have sm : Same H H' := fun a o z => e a o (by simp) z
  exact q b H' (Ch.of sm) (s.same sm) p
/-! ### dicts as data -/
theorem ev_dgetA {c : Nat} {f : Nat → Option (Nat × Nat × Int)} {k b w : Nat} {y : Int} (hd : EvP W td ρ μ (Is (.ah c f))) (hk : EvP W ty ρ μ (Is (.int (k : Int)))) (h : f k = some (b, w, y)) : EvP W (tDGet td ty) ρ μ (Is (.tup [.int (b : Int), .tup [.int (w : Int), .int y]])) := fun σ H s Q q =>
  hd σ H s _ fun v H1 d e1 s1 r1 p1 => hk σ H1 s1 _ fun v2 H2 d2 e2 s2 r2 p2 => by
    rw [show d = .ah c f from p1] at r1
    rw [show d2 = .int (k : Int) from p2] at r2
    obtain ⟨a, kvs, rfl, n, ek, _, hf⟩ := r1.kept (s1.kp e2)
    have q1 := hf k
    rw [h] at q1
    obtain ⟨v, q2, t, t', rfl, n1, n2, h1, h2⟩ := q1
    refine ⟨a, .ref t, rfl, .inl ⟨kvs, Sum.inl (k : Int), Rd.of ek, r2, q2.symm⟩, q _ H2 _ (e1.trans e2) s2 ?_ rfl⟩
    exact ⟨t, _, rfl, n1, h1, .int (b : Int), [.ref t'], rfl, rfl, .ref t', [], rfl, ⟨t', _, rfl, n2, h2, .int (w : Int), [.int y], rfl, rfl, .int y, [], rfl, rfl, rfl⟩, rfl⟩
theorem ev_dgetT {c : Nat} {f : Nat → Nat → Option Int} {i j : Nat} {l : Int} (hd : EvP W td ρ μ (Is (.dt c f))) (hk : EvP W ty ρ μ (Is (.tup [.int (i : Int), .int (j : Int)]))) (h : f i j = some l) : EvP W (tDGet td ty) ρ μ (Is (.int l)) := fun σ H s Q q =>
  hd σ H s _ fun v H1 d e1 s1 r1 p1 => hk σ H1 s1 _ fun v2 H2 d2 e2 s2 r2 p2 => by
    rw [show d = .dt c f from p1] at r1
    rw [show d2 = .tup [.int (i : Int), .int (j : Int)] from p2] at r2
    obtain ⟨a, kvs, rfl, n, ek, _, hf⟩ := r1.kept (s1.kp e2)
    obtain ⟨b, xs, rfl, nb, eb, x1, r1', rfl, rx1, x2, r2', rfl, rx2, rr⟩ := r2
    rw [show x1 = .int (i : Int) from rx1, show x2 = .int (j : Int) from rx2, show r2' = [] from rr] at eb
    have q1 := hf i j
    rw [h] at q1
    exact ⟨a, .int l, rfl, .inr ⟨kvs, [Sum.inl (i : Int), Sum.inl (j : Int)], b, Rd.of ek, rfl, eb, q1.symm⟩, q _ H2 (.int l) (e1.trans e2) s2 rfl rfl⟩
theorem key_at {i j : Nat} {H : Hp} {CN : Addr} {U : Addr → Prop} {v : V} (r2 : Rp CN U H (.tup [.int (i : Int), .int (j : Int)]) v) : ∃ b, v = .ref b ∧ H b = some (.tup (([Sum.inl (i : Int), Sum.inl (j : Int)] : List Key).map kV)) := by
  obtain ⟨b, xs, rfl, nb, eb, x1, r1', rfl, rx1, x2, r2', rfl, rx2, rr⟩ := r2
  rw [show x1 = .int (i : Int) from rx1, show x2 = .int (j : Int) from rx2, show r2' = [] from rr] at eb
  exact ⟨b, rfl, eb⟩
theorem ev_dinT {c : Nat} {f : Nat → Nat → Option Int} {i j : Nat} (hk : EvP W ty ρ μ (Is (.tup [.int (i : Int), .int (j : Int)]))) (hd : EvP W td ρ μ (Is (.dt c f))) : EvP W (tDIn ty td) ρ μ (Is (.bl (f i j).isSome)) := fun σ H s Q q =>
  hk σ H s _ fun v2 H1 d2 e1 s1 r2 p2 => hd σ H1 s1 _ fun v H2 d e2 s2 r1 p1 => by
    rw [show d = .dt c f from p1] at r1
    rw [show d2 = .tup [.int (i : Int), .int (j : Int)] from p2] at r2
    obtain ⟨a, kvs, rfl, n, ek, _, hf⟩ := r1
    obtain ⟨b, rfl, eb⟩ := key_at (r2.kept (s1.kp e2))
    refine ⟨a, _, rfl, .inr ⟨kvs, _, b, Rd.of ek, rfl, eb, rfl⟩, ?_⟩
    rw [hf i j, Option.isSome_map]
    exact q _ H2 (.bl (f i j).isSome) (e1.trans e2) s2 rfl rfl
theorem ev_dnotinT {c : Nat} {f : Nat → Nat → Option Int} {i j : Nat} (hk : EvP W ty ρ μ (Is (.tup [.int (i : Int), .int (j : Int)]))) (hd : EvP W td ρ μ (Is (.dt c f))) : EvP W (tDNotIn ty td) ρ μ (Is (.bl (!(f i j).isSome))) := fun σ H s Q q =>
  hk σ H s _ fun v2 H1 d2 e1 s1 r2 p2 => hd σ H1 s1 _ fun v H2 d e2 s2 r1 p1 => by
    rw [show d = .dt c f from p1] at r1
    rw [show d2 = .tup [.int (i : Int), .int (j : Int)] from p2] at r2
    obtain ⟨a, kvs, rfl, n, ek, _, hf⟩ := r1
    obtain ⟨b, rfl, eb⟩ := key_at (r2.kept (s1.kp e2))
    refine ⟨a, _, rfl, .inr ⟨kvs, _, b, Rd.of ek, rfl, eb, rfl⟩, ?_⟩
    rw [hf i j, Option.isSome_map]
    exact q _ H2 (.bl (!(f i j).isSome)) (e1.trans e2) s2 rfl rfl
/-! ### stores into cells -/
theorem Stt.put {j : Nat} {a : Addr} {o : HO} {c0 c : Cell} (s : Stt W σ H ρ μ) (ha : W.A[j]? = some a) (hm : μ[j]? = some c0) (hc : CellOk W.CN W.U (upd H a o) a c) : Stt W σ (upd H a o) ρ (μ.set j c) ∧ Ch W.A H (upd H a o) := by
  obtain ⟨s1, k⟩ := s.sto.put ha hm hc
  exact ⟨s.kept k s1, fun b o nb e => by
    rw [upd_ne fun z => nb (by rw [z]; exact List.mem_of_getElem? ha)]
    exact e⟩
theorem kept_cell {j : Nat} {a : Addr} (s : Sto W H μ) (ha : W.A[j]? = some a) (o : HO) : Kept W.U H (upd H a o) := fun b o nb e => by
  rw [upd_ne fun z => nb (by rw [z]; exact s.sub a (List.mem_of_getElem? ha))]
  exact e
/-- far[k] = .. -/
theorem gv_setL {i j k : Nat} {ds : List D} {d : D} (hr : ρ[i]? = some (.c j)) (hm : μ[j]? = some (.ml ds)) (hk : k < ds.length) (hi : EvP W ti ρ μ (Is (.int (k : Int)))) (h : N ρ (μ.set j (.ml (ds.set k d)))) : GvP W (gSub (tVar i) ti rSetL) ρ μ d N := fun σ H v s r Q q => by
  obtain ⟨a, ha, hσ⟩ := s.sl i _ hr
  refine ⟨.ref a, hσ, hi σ H s _ fun v2 H2 d2 e2 s2 r2 p2 => ?_⟩
  rw [show d2 = .int (k : Int) from p2] at r2
  obtain ⟨a', ha', xs, ex, rx⟩ := s2.sto.cell j _ hm
  rw [ha] at ha'
  cases ha'
  have rd := r.kept (s.kp e2)
  have kp := kept_cell s2.sto ha (.lst (xs.set k v))
  obtain ⟨s3, c3⟩ := s2.put (o := .lst (xs.set k v)) (c := .ml (ds.set k d)) ha hm ⟨_, upd_same, (rx.set rd k).kept kp⟩
  refine ⟨a, xs, (k : Int), k, rfl, r2, ex, ?_, q σ _ ρ _ (e2.trans c3) s3 h⟩
  exact ixN_of (by rw [rx.length]; exact hk)
/-- ahead[k] = (before, (wire, way)) -/
theorem gv_setA {i j k c b w : Nat} {f : Nat → Option (Nat × Nat × Int)} {y : Int} (hr : ρ[i]? = some (.c j)) (hm : μ[j]? = some (.ah c f)) (hc : c < 1000) (hi : EvP W ti ρ μ (Is (.int (k : Int)))) (h : N ρ (μ.set j (.ah (c + 1) (up f k (some (b, w, y)))))) :
    GvP W (gSub (tVar i) ti rSetD) ρ μ (.tup [.int (b : Int), .tup [.int (w : Int), .int y]]) N := fun σ H v s r Q q => by
  obtain ⟨a, ha, hσ⟩ := s.sl i _ hr
  refine ⟨.ref a, hσ, hi σ H s _ fun v2 H2 d2 e2 s2 r2 p2 => ?_⟩
  rw [show d2 = .int (k : Int) from p2] at r2
  obtain ⟨a', ha', kvs, ex, hlen, hf⟩ := s2.sto.cell j _ hm
  rw [ha] at ha'
  cases ha'
  obtain ⟨t, xs, rfl, nt, et, x1, r1', rfl, rx1, x2, r2', rfl, rx2, rr⟩ := r.kept (s.kp e2)
  rw [show x1 = .int (b : Int) from rx1, show r2' = [] from rr] at et
  obtain ⟨t', ys, rfl, nt', et', y1, r3', rfl, ry1, y2, r4', rfl, ry2, rr2⟩ := rx2
  rw [show y1 = .int (w : Int) from ry1, show y2 = .int y from ry2, show r4' = [] from rr2] at et'
  have kp := kept_cell s2.sto ha (.dK (putK kvs (Sum.inl (k : Int)) (.ref t)))
  have hcell : CellOk W.CN W.U (upd H2 a (.dK (putK kvs (Sum.inl (k : Int)) (.ref t)))) a (.ah (c + 1) (up f k (some (b, w, y)))) := by
    refine ⟨_, upd_same, Nat.le_trans (length_putK _ _ _) (Nat.succ_le_succ hlen), fun k' => ?_⟩
    rw [valV_put]
    by_cases e : k' = k
    · subst e
      rw [if_pos rfl, up_same]
      exact ⟨.ref t, rfl, t, t', rfl, nt, nt', kp _ _ nt et, kp _ _ nt' et'⟩
    · rw [if_neg (fun z => e (by
        have z1 : (Sum.inl (k' : Int) : Key) = Sum.inl (k : Int) := z
        have := Sum.inl.inj z1
        omega)), up_ne e]
      have q1 := hf k'
      cases e1 : f k' with
      | none => rw [e1] at q1; exact q1
      | some p =>
        rw [e1] at q1
        obtain ⟨v, q2, q3⟩ := q1
        exact ⟨v, q2, q3.kept kp⟩
  obtain ⟨s3, c3⟩ := s2.put ha hm hcell
  show ∃ a' H', _ ∧ DPut H2 a' v2 _ H' ∧ _
  exact ⟨a, _, rfl, .inl ⟨kvs, Sum.inl (k : Int), ex, r2, small1000 (by omega), rfl⟩, q σ _ ρ _ (e2.trans c3) s3 h⟩
def up2 (f : Nat → Nat → Option Int) (i j : Nat) (v : Int) : Nat → Nat → Option Int := fun a b => if a = i ∧ b = j then some v else f a b
/-- far[i, j] = l -/
theorem sv_dputT {x j c p q : Nat} {f : Nat → Nat → Option Int} {l : Int} (hr : ρ[x]? = some (.c j)) (hm : μ[j]? = some (.dt c f)) (hc : c < 1000) (hk : EvP W ty ρ μ (Is (.tup [.int (p : Int), .int (q : Int)]))) (hv : EvP W tv ρ μ (Is (.int l))) (h : N ρ (μ.set j (.dt (c + 1) (up2 f p q l)))) :
    SvP W (sDPut (tVar x) ty tv) ρ μ N R := fun σ H E s qn qr => by
  refine hv σ H s _ fun v1 H1 d1 e1 s1 r1 p1 => ?_
  rw [show d1 = .int l from p1] at r1
  obtain ⟨a, ha, hσ⟩ := s1.sl x _ hr
  refine ⟨.ref a, hσ, hk σ H1 s1 _ fun v2 H2 d2 e2 s2 r2 p2 => ?_⟩
  rw [show d2 = _ from p2] at r2
  obtain ⟨b, rfl, eb⟩ := key_at r2
  obtain ⟨a', ha', kvs, ex, hlen, hf⟩ := s2.sto.cell j _ hm
  rw [ha] at ha'
  cases ha'
  have hcell : CellOk W.CN W.U (upd H2 a (.dT (putK kvs [Sum.inl (p : Int), Sum.inl (q : Int)] v1))) a (.dt (c + 1) (up2 f p q l)) := by
    refine ⟨_, upd_same, Nat.le_trans (length_putK _ _ _) (Nat.succ_le_succ hlen), fun i' j' => ?_⟩
    rw [valV_put, show v1 = .int l from r1]
    unfold up2
    by_cases e : i' = p ∧ j' = q
    · rw [if_pos e, if_pos (by rw [e.1, e.2])]
      rfl
    · rw [if_neg e, if_neg (fun z => e (by
        have z1 : ([Sum.inl (i' : Int), Sum.inl (j' : Int)] : List Key) = [Sum.inl (p : Int), Sum.inl (q : Int)] := z
        injection z1 with z2 z3
        injection z3 with z4 _
        have h1 := Sum.inl.inj z2
        have h2 := Sum.inl.inj z4
        constructor <;> omega))]
      exact hf i' j'
  obtain ⟨s3, c3⟩ := s2.put ha hm hcell
  exact ⟨a, _, rfl, .inr ⟨kvs, _, b, ex, rfl, eb, small1000 (by omega), rfl⟩, qn σ _ ρ _ (e1.trans (e2.trans c3)) s3 h⟩
/-! ### equality of data -/
mutual
def D.py : D → PyData
  | .non => .none
  | .bl b => .bool b
  | .int i => .int i
  | .str s => .str s
  | .tup ds => .tuple (pyL ds)
  | .lst ds => .list (pyL ds)
  | .net _ _ => .none
  | .ah _ _ => .none
  | .dt _ _ => .none
  | .ty _ => .none
  | .cls _ => .none
def pyL : List D → List PyData
  | [] => []
  | d :: ds => d.py :: pyL ds
end
mutual
/-- numbers, truth values, None, texts, tuples and lists of such -/
def D.pln : D → Bool
  | .non => true
  | .bl _ => true
  | .int _ => true
  | .str _ => true
  | .tup ds => plnL ds
  | .lst ds => plnL ds
  | .net _ _ => false
  | .ah _ _ => false
  | .dt _ _ => false
  | .ty _ => false
  | .cls _ => false
def plnL : List D → Bool
  | [] => true
  | d :: ds => d.pln && plnL ds
end
mutual
theorem dp_of {K : PySem.W.Frag} {CN : Addr} {U : Addr → Prop} : ∀ {d : D} {v : V}, d.pln = true → Rp CN U H d v → Dp K H v d.py
  | .non, v, _, r => by rw [show v = .non from r, D.py]; exact .non
  | .bl b, v, _, r => by rw [show v = .bl b from r, D.py]; exact .bl b
  | .int i, v, _, r => by rw [show v = .int i from r, D.py]; exact .int i
  | .str s, v, _, r => by rw [show v = .str s from r, D.py]; exact .str s
  | .tup ds, v, h, r => by
    obtain ⟨a, xs, rfl, n, e, rl⟩ := r
    rw [D.pln] at h
    rw [D.py]
    exact .tup (SqT.of e) (dpL_of h rl)
  | .lst ds, v, h, r => by
    obtain ⟨a, xs, rfl, n, e, rl⟩ := r
    rw [D.pln] at h
    rw [D.py]
    exact .lst (SqL.of e) (dpL_of h rl)
  | .net _ _, v, h, r => by rw [D.pln] at h; cases h
  | .ah _ _, v, h, r => by rw [D.pln] at h; cases h
  | .dt _ _, v, h, r => by rw [D.pln] at h; cases h
  | .ty _, v, h, r => by rw [D.pln] at h; cases h
  | .cls _, v, h, r => by rw [D.pln] at h; cases h
theorem dpL_of {K : PySem.W.Frag} {CN : Addr} {U : Addr → Prop} : ∀ {ds : List D} {vs : List V}, plnL ds = true → RpL CN U H ds vs → DpAll K H vs (pyL ds)
  | [], vs, _, r => by rw [show vs = [] from r, pyL]; exact .nil
  | d :: ds, vs, h, r => by
    obtain ⟨v, r', rfl, h1, h2⟩ := r
    rw [plnL, Bool.and_eq_true] at h
    rw [pyL]
    exact .cons (dp_of h.1 h1) (dpL_of h.2 h2)
end
mutual
theorem py_plain : ∀ d : D, d.py.plain = true
  | .non => rfl
  | .bl b => rfl
  | .int i => rfl
  | .str s => rfl
  | .tup ds => by rw [D.py, PyData.plain]; exact pyL_plain ds
  | .lst ds => by rw [D.py, PyData.plain]; exact pyL_plain ds
  | .net _ _ => rfl
  | .ah _ _ => rfl
  | .dt _ _ => rfl
  | .ty _ => rfl
  | .cls _ => rfl
theorem pyL_plain : ∀ ds : List D, PyData.plainAll (pyL ds) = true
  | [] => rfl
  | d :: ds => by rw [pyL, PyData.plainAll, py_plain d, pyL_plain ds]; rfl
end
def rEqP (K : PySem.W.Frag) : R2 := fun x y H Q => ∃ d e : PyData, Dp K H x d ∧ Dp K H y e ∧ d.plain = true ∧ e.plain = true ∧ (d.depth ≤ 60 ∨ e.depth ≤ 60) ∧ Q (.bl (PyData.eqv d e)) H
def rNeP (K : PySem.W.Frag) : R2 := fun x y H Q => ∃ d e : PyData, Dp K H x d ∧ Dp K H y e ∧ d.plain = true ∧ e.plain = true ∧ (d.depth ≤ 60 ∨ e.depth ≤ 60) ∧ Q (.bl (!PyData.eqv d e)) H
theorem op_eqP {X : Cx} (hu : X.A.units + 64 < cLine) : OpR X (compareOp .Eq) (rEqP X.K) := by
  intro pins s σ H x y v u Q I rx ry h
  obtain ⟨d, e, hd, he, pd, pe, hdep, q⟩ := h
  obtain ⟨as, r1⟩ := Dp.reads I d x v hd rx
  obtain ⟨bs, r2⟩ := Dp.reads I e y u he ry
  exact SeqAt.eq_plain r1 r2 pd pe (by have := Nat.min_le_left d.depth e.depth; have := Nat.min_le_right d.depth e.depth; omega) ⟨.bl _, H, I, rfl, q⟩
theorem op_neP {X : Cx} (hu : X.A.units + 64 < cLine) : OpR X (compareOp .NotEq) (rNeP X.K) := by
  intro pins s σ H x y v u Q I rx ry h
  obtain ⟨d, e, hd, he, pd, pe, hdep, q⟩ := h
  obtain ⟨as, r1⟩ := Dp.reads I d x v hd rx
  obtain ⟨bs, r2⟩ := Dp.reads I e y u he ry
  exact SeqAt.ne_plain r1 r2 pd pe (by have := Nat.min_le_left d.depth e.depth; have := Nat.min_le_right d.depth e.depth; omega) ⟨.bl _, H, I, rfl, q⟩
theorem od_eqP {K : PySem.W.Frag} {x y : D} (hx : x.pln = true) (hy : y.pln = true) (hd : x.py.depth ≤ 60 ∨ y.py.depth ≤ 60) : OpD W (rEqP K) x y (Is (.bl (PyData.eqv x.py y.py))) := fun H μ s vx vy r1 r2 Q q =>
  ⟨_, _, dp_of hx r1, dp_of hy r2, py_plain x, py_plain y, hd, q _ H (.bl _) (Same.refl H) rfl rfl⟩
theorem od_neP {K : PySem.W.Frag} {x y : D} (hx : x.pln = true) (hy : y.pln = true) (hd : x.py.depth ≤ 60 ∨ y.py.depth ≤ 60) : OpD W (rNeP K) x y (Is (.bl (!PyData.eqv x.py y.py))) := fun H μ s vx vy r1 r2 Q q =>
  ⟨_, _, dp_of hx r1, dp_of hy r2, py_plain x, py_plain y, hd, q _ H (.bl _) (Same.refl H) rfl rfl⟩
/-- [..] == [], (..) == () -/
theorem eqv_nilL (ds : List D) : PyData.eqv (D.lst ds).py (D.lst []).py = ds.isEmpty := by
  cases ds <;> rfl
theorem eqv_nilT (ds : List D) : PyData.eqv (D.tup ds).py (D.tup []).py = ds.isEmpty := by
  cases ds <;> rfl
/-! ### fresh lists -/
theorem ef_list {K : PySem.W.Frag} {x : D} {ds : List D} (hx : x = .lst ds ∨ x = .tup ds) (ha : EvP W ta ρ μ (Is x)) : EvF W (tCB (rListS K) (tCons ta tNil)) ρ μ (Is (.ml ds)) := fun σ H s Q q =>
  ha σ H s _ fun v H1 d e1 s1 r1 p1 => by
    rw [show d = x from p1] at r1
    have fin : ∀ (a : Addr) (xs : List V), RpL W.CN W.U H1 ds xs → ∀ l, H1 l = none → Q (.ref l) (upd H1 l (.lst xs)) := fun a xs rl l hp => by
      have hp0 : H l = none := by
        cases z : H l with
        | none => rfl
        | some o => rw [e1 l o (Stt.notA s1.sto hp) z] at hp; cases hp
      exact q l _ (.ml ds) hp0 (e1.trans (Ch.of (same_new hp))) (s1.ext hp ⟨xs, upd_same, (rl.bar hp).kept (Kept.of (same_new hp))⟩) rfl
    rcases hx with rfl | rfl
    · obtain ⟨a, xs, rfl, n, e, rl⟩ := r1
      exact ⟨a, xs, rfl, .inl (SqL.of e), fin a xs rl⟩
    · obtain ⟨a, xs, rfl, n, e, rl⟩ := r1
      exact ⟨a, xs, rfl, .inr (SqT.of e), fin a xs rl⟩
/-- i, j, l = fresh, fresh, data -/
theorem sv_par3F {te1 te2 te3 : TE} {i j l : Nat} {PC1 PC2 : Cell → Prop} (h1 : EvF W te1 ρ μ PC1) (h2 : ∀ p1 c1, PC1 c1 → EvF (W.ext p1) te2 ρ (μ ++ [c1]) PC2) (h3 : ∀ p1 c1 p2 c2, PC1 c1 → PC2 c2 → EvP ((W.ext p1).ext p2) te3 ρ ((μ ++ [c1]) ++ [c2]) P)
    (k : ∀ p1 c1 p2 c2 d, Fr W p1 → Fr (W.ext p1) p2 → PC1 c1 → PC2 c2 → P d → SvP ((W.ext p1).ext p2) t2 (((ρ.set i (.c μ.length)).set j (.c (μ.length + 1))).set l (.d d)) ((μ ++ [c1]) ++ [c2]) (fun _ _ => False) R)
    (hi : Nat.ble (i + 1) ρ.length = true := by rfl) (hj : Nat.ble (j + 1) ρ.length = true := by rfl) (hl : Nat.ble (l + 1) ρ.length = true := by rfl) :
    SvP W (tSeq (tPar3 i j l (tCons te1 (tCons te2 (tCons te3 tNil)))) t2) ρ μ N R := fun σ H E s qn qr => by
  have f1 : ∀ p, H p = none → Fr W p := fun p hp => s.sto.fr hp
  refine h1 σ H s _ fun p1 H1 c1 hp1 e1 s1 pc1 => h2 p1 c1 pc1 σ H1 s1 _ fun p2 H2 c2 hp2 e2 s2 pc2 => h3 p1 c1 p2 c2 pc1 pc2 σ H2 s2 _ fun v H3 d e3 s3 r3 pd => ⟨.ref p1, .ref p2, v, rfl, ?_⟩
  have hlen : μ.length = W.A.length := s.sto.len
  have a1 : ((W.ext p1).ext p2).A[μ.length]? = some p1 := by
    show ((W.A ++ [p1]) ++ [p2])[μ.length]? = some p1
    rw [List.append_assoc, hlen, List.getElem?_append_right (Nat.le_refl _), Nat.sub_self]
    rfl
  have a2 : ((W.ext p1).ext p2).A[μ.length + 1]? = some p2 := by
    show ((W.A ++ [p1]) ++ [p2])[μ.length + 1]? = some p2
    rw [List.append_assoc, hlen, List.getElem?_append_right (Nat.le_succ _), show W.A.length.succ - W.A.length = 1 by omega]
    rfl
  have fr1 : Fr W p1 := s.sto.fr hp1
  have fr2 : Fr (W.ext p1) p2 := s1.sto.fr hp2
  have s4 := ((s3.setC (Nat.le_of_ble_eq_true hi) a1).setC (by rw [List.length_set]; exact Nat.le_of_ble_eq_true hj) a2).set (i := l) (by rw [List.length_set, List.length_set]; exact Nat.le_of_ble_eq_true hl) r3
  refine k p1 c1 p2 c2 d fr1 fr2 pc1 pc2 pd _ H3 E s4 (fun _ _ _ _ _ _ n => n.elim) fun v4 H4 d4 μ4 e4 s5 r5 p5 => ?_
  have c3 : Ch ((W.ext p1).ext p2).A H2 H4 := e3.trans e4
  exact qr v4 H4 d4 μ4 (Ch.ext hp1 (Ch.ext hp2 c3 e2) e1) ((s5.cut fr2).cut fr1) r5 p5
/-- i, j = fresh, data -/
theorem sv_parF {te1 te2 : TE} {i j : Nat} {PC1 : Cell → Prop} (h1 : EvF W te1 ρ μ PC1) (h2 : ∀ p1 c1, PC1 c1 → EvP (W.ext p1) te2 ρ (μ ++ [c1]) P)
    (k : ∀ p1 c1 d, Fr W p1 → PC1 c1 → P d → SvP (W.ext p1) t2 ((ρ.set i (.c μ.length)).set j (.d d)) (μ ++ [c1]) (fun _ _ => False) R)
    (hi : Nat.ble (i + 1) ρ.length = true := by rfl) (hj : Nat.ble (j + 1) ρ.length = true := by rfl) :
    SvP W (tSeq (tPar i j (tCons te1 (tCons te2 tNil))) t2) ρ μ N R := fun σ H E s qn qr => by
  refine h1 σ H s _ fun p1 H1 c1 hp1 e1 s1 pc1 => h2 p1 c1 pc1 σ H1 s1 _ fun v H3 d e3 s3 r3 pd => ⟨.ref p1, v, rfl, ?_⟩
  have hlen : μ.length = W.A.length := s.sto.len
  have a1 : (W.ext p1).A[μ.length]? = some p1 := by
    show (W.A ++ [p1])[μ.length]? = some p1
    rw [hlen, List.getElem?_append_right (Nat.le_refl _), Nat.sub_self]
    rfl
  have fr1 : Fr W p1 := s.sto.fr hp1
  have s4 := (s3.setC (Nat.le_of_ble_eq_true hi) a1).set (i := j) (by rw [List.length_set]; exact Nat.le_of_ble_eq_true hj) r3
  refine k p1 c1 d fr1 pc1 pd _ H3 E s4 (fun _ _ _ _ _ _ n => n.elim) fun v4 H4 d4 μ4 e4 s5 r5 p5 => ?_
  exact qr v4 H4 d4 μ4 (Ch.ext hp1 (e3.trans e4) e1) (s5.cut fr1) r5 p5
/-- i, j = data, data -/
theorem sv_par {te1 te2 : TE} {i j : Nat} (h1 : EvP W te1 ρ μ Pa) (h2 : ∀ d, Pa d → EvP W te2 ρ μ Pb) (k : ∀ d e, Pa d → Pb e → N ((ρ.set i (.d d)).set j (.d e)) μ)
    (hi : Nat.ble (i + 1) ρ.length = true := by rfl) (hj : Nat.ble (j + 1) ρ.length = true := by rfl) : SvP W (tPar i j (tCons te1 (tCons te2 tNil))) ρ μ N R := fun σ H E s qn qr => by
  refine h1 σ H s _ fun v1 H1 d1 e1 s1 r1 p1 => h2 d1 p1 σ H1 s1 _ fun v2 H2 d2 e2 s2 r2 p2 => ⟨v1, v2, rfl, ?_⟩
  have s4 := (s2.set (Nat.le_of_ble_eq_true hi) (r1.kept (s1.kp e2))).set (i := j) (by rw [List.length_set]; exact Nat.le_of_ble_eq_true hj) r2
  exact qn _ H2 _ _ (e1.trans e2) s4 (k d1 d2 p1 p2)
end
end RN
end

section
set_option Elab.async false
set_option linter.all false
set_option maxRecDepth 100000
set_option maxHeartbeats 2000000
set_option autoImplicit false
/-! RN_Core7: forgetting slots, reading cells, the list of distances. -/
namespace RN
open PySem PySem.Spec L2
section
variable {W : Wd} {σ : L2.St} {H H' : Hp} {ρ : List Sl} {μ : List Cell}
variable {te ta tb td ty tv tl ti : TE} {tt : TT} {P Pa Pb : D → Prop} {PB : Bool → Prop} {N N1 : List Sl → List Cell → Prop} {R : D → List Cell → Prop} {ts t2 : TS} {g : TG}
def keepR (ks : List Nat) : Nat → List Sl → List Sl
  | _, [] => []
  | i, s :: r => (if ks.elem i = true then s else .no) :: keepR ks (i + 1) r
theorem keepR_len (ks : List Nat) : ∀ (i : Nat) (ρ : List Sl), (keepR ks i ρ).length = ρ.length
  | _, [] => rfl
  | i, s :: r => by
    show (keepR ks (i + 1) r).length + 1 = _
    rw [keepR_len ks (i + 1) r]
    rfl
theorem keepR_get (ks : List Nat) : ∀ (i : Nat) (ρ : List Sl) (k : Nat) (x : Sl), (keepR ks i ρ)[k]? = some x → x = .no ∨ ρ[k]? = some x
  | _, [], k, x, h => by cases h
  | i, s :: r, 0, x, h => by
    have h' : some (if ks.elem i = true then s else Sl.no) = some x := h
    cases h'
    split
    · exact .inr rfl
    · exact .inl rfl
  | i, s :: r, k + 1, x, h => keepR_get ks (i + 1) r k x h
theorem sv_keep (ks : List Nat) (h : SvP W ts (keepR ks 0 ρ) μ N R) : SvP W ts ρ μ N R := fun σ H E s qn qr =>
  h σ H E (s.forget (keepR_len ks 0 ρ) (keepR_get ks 0 ρ)) qn qr
/-- the slot i alone holds the cell j -/
def onlyC (j i : Nat) : Nat → List Sl → Bool
  | _, [] => true
  | k, .c l :: r => (Nat.beq k i || !Nat.beq l j) && onlyC j i (k + 1) r
  | k, .d _ :: r => onlyC j i (k + 1) r
  | k, .no :: r => onlyC j i (k + 1) r
  | k, .s _ _ :: r => onlyC j i (k + 1) r
theorem onlyC_of {j i : Nat} : ∀ {m : Nat} {ρ : List Sl}, onlyC j i m ρ = true → ∀ k : Nat, ρ[k]? = some (.c j) → m + k = i
  | _, [], _, k, h => by cases h
  | m, .c l :: r, h, 0, e => by
    cases e
    have h' : ((Nat.beq m i || !Nat.beq j j) && onlyC j i (m + 1) r) = true := h
    rw [Bool.and_eq_true, Bool.or_eq_true] at h'
    rcases h'.1 with q | q
    · exact Nat.eq_of_beq_eq_true q
    · rw [Nat.beq_refl] at q
      cases q
  | m, .c l :: r, h, k + 1, e => by
    have h' : ((Nat.beq m i || !Nat.beq l j) && onlyC j i (m + 1) r) = true := h
    rw [Bool.and_eq_true] at h'
    have := onlyC_of h'.2 k e
    omega
  | m, .d _ :: r, h, 0, e => by cases e
  | m, .d _ :: r, h, k + 1, e => by
    have := onlyC_of (m := m + 1) (show onlyC j i (m + 1) r = true from h) k e
    omega
  | m, .no :: r, h, 0, e => by cases e
  | m, .no :: r, h, k + 1, e => by
    have := onlyC_of (m := m + 1) (show onlyC j i (m + 1) r = true from h) k e
    omega
  | m, .s _ _ :: r, h, 0, e => by cases e
  | m, .s _ _ :: r, h, k + 1, e => by
    have := onlyC_of (m := m + 1) (show onlyC j i (m + 1) r = true from h) k e
    omega
/-- the last cell is data from now on; the slots ks alone are kept -/
theorem sv_frz {p : Addr} {i : Nat} {c : Cell} (ks : List Nat) (f : Fr W p) (k : SvP W ts ((keepR ks 0 ρ).set i (.d c.dat)) μ (fun _ _ => False) R) (hc : c.isUrn = false := by rfl) (hr : (keepR ks 0 ρ)[i]? = some (.c μ.length) := by rfl) (ho : onlyC μ.length i 0 (keepR ks 0 ρ) = true := by rfl) :
    SvP (W.ext p) ts ρ (μ ++ [c]) N R := sv_keep ks (sv_freeze f hc hr (fun k h => by have := onlyC_of ho k h; omega) k)
theorem ev_ixC {K : PySem.W.Frag} {i j : Nat} {k : Int} {ds : List D} {d : D} (hr : ρ[i]? = some (.c j)) (hm : μ[j]? = some (.ml ds)) (h : atI ds k = some d) (hb : EvP W tb ρ μ (Is (.int k))) : EvP W (tOp (rIxL K) (tVar i) tb) ρ μ (Is d) := fun σ H s Q q => by
  obtain ⟨a, ha, hσ⟩ := s.sl i _ hr
  refine ⟨.ref a, hσ, hb σ H s _ fun v2 H2 d2 e2 s2 r2 p2 => ?_⟩
  rw [show d2 = .int k from p2] at r2
  obtain ⟨a', ha', xs, ex, rx⟩ := s2.sto.cell j _ hm
  rw [ha] at ha'
  cases ha'
  obtain ⟨j', h1, h2, h3, h4, h5⟩ := atI_get h
  obtain ⟨v, q1, q2⟩ := rx.get h2
  refine ⟨a, xs, k, v, rfl, r2, SqL.of ex, ?_, q v H2 d e2 s2 q2 rfl⟩
  unfold atI at h ⊢
  rw [rx.length]
  cases z : ixN ds.length k with
  | none => rw [z] at h; cases h
  | some j'' =>
    have e1 := (ixN_seq z).1
    rw [h1] at e1
    cases e1
    exact q1
theorem ev_lenC {K : PySem.W.Frag} {i j : Nat} {ds : List D} (hr : ρ[i]? = some (.c j)) (hm : μ[j]? = some (.ml ds)) : EvP W (tCB (rLenS K) (tCons (tVar i) tNil)) ρ μ (Is (.int ds.length)) := fun σ H s Q q => by
  obtain ⟨a, ha, hσ⟩ := s.sl i _ hr
  obtain ⟨a', ha', xs, ex, rx⟩ := s.sto.cell j _ hm
  rw [ha] at ha'
  cases ha'
  refine ⟨.ref a, hσ, a, xs, rfl, .inl (SqL.of ex), ?_⟩
  rw [rx.length]
  exact q _ H (.int ds.length) (Ch.refl _ _) s rfl rfl
end
/-! ### the list of distances -/
def farL (n : Nat) (f : Far) : List D := (List.range n).map fun k => oD (f k)
theorem farL_len (n : Nat) (f : Far) : (farL n f).length = n := by
  unfold farL
  rw [List.length_map, List.length_range]
theorem farL_get {n k : Nat} (f : Far) (h : k < n) : (farL n f)[k]? = some (oD (f k)) := by
  unfold farL
  rw [List.getElem?_map, List.getElem?_range h]
  rfl
theorem farL_at {n k : Nat} (f : Far) (h : k < n) : atI (farL n f) (k : Int) = some (oD (f k)) := atI_nat (farL_get f h)
theorem farL_set {n b : Nat} (f : Far) (x : Option Int) (h : b < n) : (farL n f).set b (oD x) = farL n (up f b x) := by
  refine List.ext_getElem? fun k => ?_
  by_cases hk : k < n
  · rw [farL_get _ hk]
    by_cases e : k = b
    · subst e
      rw [List.getElem?_set_self (by rw [farL_len]; exact hk), up_same]
    · rw [List.getElem?_set_ne (Ne.symm e), farL_get _ hk, up_ne e]
  · rw [List.getElem?_eq_none (by rw [List.length_set, farL_len]; omega), List.getElem?_eq_none (by rw [farL_len]; omega)]
def oN : Option Nat → D
  | none => .non
  | some k => .int (k : Int)
theorem isN_oD (x : Option Int) : (oD x).isN = x.isNone := by cases x <;> rfl
theorem isN_oN (x : Option Nat) : (oN x).isN = x.isNone := by cases x <;> rfl
theorem flat_oD (x : Option Int) : (oD x).flat = true := by cases x <;> rfl
end RN
end

section
set_option Elab.async false
set_option linter.all false
set_option maxRecDepth 100000
set_option maxHeartbeats 4000000
set_option autoImplicit false
/-! RN_W5: the links, one round of the search. -/
namespace RN
open PySem PySem.Spec L2
def lksD (ls : List Lk) : D := .lst (ls.map Lk.d)
abbrev spLinks (CN : Addr) : Sp := spG (α := NetD × List Rg) CN (fun z => [z.1.d, rsD z.2]) (fun z => z.1.ok ∧ z.2.length = z.1.ws.length) fun z => lksD (linksOf z.1.ws z.2)
/-- far and ahead, two cells -/
def spShort (CN : Addr) : Sp := fun vs H Q _ => ∃ (U : Addr → Prop) (p q : Addr) (vl : V) (n c : Nat) (ls : List Lk) (far : Far) (ah : Ahd), vs = [vl, .ref p, .ref q] ∧ p ≠ q ∧ U p ∧ U q ∧ (∀ a, U a → H a ≠ none) ∧ Rp CN U H (lksD ls) vl ∧
  CellOk CN U H p (.ml (farL n far)) ∧ CellOk CN U H q (.ah c ah) ∧ (∀ e ∈ ls, LkOk n e) ∧ ls.length ≤ 48 ∧ c + ls.length ≤ 1000 ∧
  ∀ v H' c', Ch [p, q] H H' → c' ≤ c + ls.length → CellOk CN U H' p (.ml (farL n (shortM ls far ah).far)) → CellOk CN U H' q (.ah c' (shortM ls far ah).ah) → Rp CN U H' (oN (shortM ls far ah).fd) v → Q v H'
section
variable {P : Program} {w : World} {K : PySem.W.Frag} {mg : Str → Option Value} {base : Heap} {CN CP : Addr} {f : Addr} {fd : FuncData}
theorem ok_links_of (B : Bf mg) (NF : NetF K CN CP) (C_wires : Prp P w K mg base CN 1 "wires" (spWires CN)) (g : mg "links_of" = some (.ref f)) (F : FnP K "links_of" s_links_of f fd) : Cal P w K mg base CX0 3 "links_of" ["net", "ranges"] (spLinks CN) := by
  refine cal_mk g F (fun _ _ _ _ _ _ us hl => match us, hl with | [_, _], _ => rfl) (fn_N _ _ _ F sc_links_of (fun _ => rfl) fun cdv A outer s H E hr z hx => ?_)
  obtain ⟨n, rs⟩ := z
  obtain ⟨hn, hlen⟩ := hx
  replace hlen : rs.length = n.ws.length := hlen
  refine ⟨_, (pss_cons (ps_set (i := 2) sc_links_of.nd rfl (by first | exact Or.inl rfl | exact Or.inr rfl) (pe_lst pa_nil)) (pss_cons (ps_for PassesOwn.never rfl (pi_enumzip (c1 := true) (c2 := true) rfl B.b_enumerate rfl B.b_zip (pa_cons (pe_net_prop NF C_wires (hr.mono (by decide)) (pv 0)) (pa_cons (pv 1) pa_nil))) (pg_tup rfl (pgs_cons (pg_name (i := 3) sc_links_of.nd rfl (by first | exact Or.inl rfl | exact Or.inr rfl)) (pgs_cons (pg_tup rfl (pgs_cons (pg_tup rfl (pgs_cons (pg_name (i := 4) sc_links_of.nd rfl (by first | exact Or.inl rfl | exact Or.inr rfl)) (pgs_cons (pg_name (i := 5) sc_links_of.nd rfl (by first | exact Or.inl rfl | exact Or.inr rfl)) (pgs_cons (pg_name (i := 6) sc_links_of.nd rfl (by first | exact Or.inl rfl | exact Or.inr rfl)) pgs_nil)))) (pgs_cons (pg_tup rfl (pgs_cons (pg_name (i := 7) sc_links_of.nd rfl (by first | exact Or.inl rfl | exact Or.inr rfl)) (pgs_cons (pg_name (i := 8) sc_links_of.nd rfl (by first | exact Or.inl rfl | exact Or.inr rfl)) pgs_nil))) pgs_nil))) pgs_nil))) (pss_cons (ps_if (pt_cmp (pc_notN (pv 7))) (pss_one (ps_expr (pe_bm PySem.F.plainAttrs_list PySem.F.slot_list_append PySem.F.type_list_append mt_append (pv 2) (pa_cons (pe_tup (pa_cons (pv 4) (pa_cons (pv 5) (pa_cons (pe_un un_neg (pv 7)) (pa_cons (pe_tup (pa_cons (pv 3) (pa_cons (pe_gint B.c_FORWARD) pa_nil))) pa_nil))))) pa_nil)))) pss_nil) (pss_one (ps_if (pt_cmp (pc_notN (pv 8))) (pss_one (ps_expr (pe_bm PySem.F.plainAttrs_list PySem.F.slot_list_append PySem.F.type_list_append mt_append (pv 2) (pa_cons (pe_tup (pa_cons (pv 5) (pa_cons (pv 4) (pa_cons (pv 8) (pa_cons (pe_tup (pa_cons (pv 3) (pa_cons (pe_gint B.c_BACK) pa_nil))) pa_nil))))) pa_nil)))) pss_nil)))) (pss_one (ps_ret (pv 2))))), fun U => ?_⟩
  refine sv_new ef_nil fun p c fr e => ?_
  rw [show c = .ml [] from e]
  have h24 : n.ws.length ≤ 24 := hn.2.2.1
  refine sv_seq (N1 := fun ρ' μ' => μ' = [.ml ((linksOf n.ws rs).map Lk.d)] ∧ ∃ a b c d e g, ρ' = [.d n.d, .d (rsD rs), .c 0, a, b, c, d, e, g]) (sv_for (ds := enumD (zipD (n.ws.map Wi.d) (rs.map rgD))) (fun i ρ' μ' => μ' = [.ml ((lkUp n.ws rs i).map Lk.d)] ∧ ∃ a b c d e g, ρ' = [.d n.d, .d (rsD rs), .c 0, a, b, c, d, e, g])
    (iv_enumzip (c1 := true) (c2 := true) (ea_cons (ev_propG (k := (n.k : Int)) (wd := wsD n.ws) n (ev_var rfl) rfl trivial) (ea_cons (ev_var rfl) ea_nil))) ⟨rfl, .no, .no, .no, .no, .no, .no, rfl⟩ (fun i d ρ' μ' hd inv => ?_) fun ρ' μ' h => ?_) fun ρ' μ' h => ?_
  · obtain ⟨rfl, a, b, c, d', e', g', rfl⟩ := inv
    obtain ⟨d0, h0, rfl⟩ := enumD_getV hd
    obtain ⟨d1, d2, q1, q2, rfl⟩ := zipD_getV h0
    obtain ⟨x, hx, rfl⟩ := getMap q1
    obtain ⟨r, hrr, rfl⟩ := getMap q2
    obtain ⟨lo, hi⟩ := r
    have hz : (lkUp n.ws rs i).length ≤ 2 * i := lkUp_len n.ws rs i
    have hi24 : i < n.ws.length := (List.getElem?_eq_some_iff.mp hx).1
    have hnext : lkUp n.ws rs (i + 1) = lkUp n.ws rs i ++ lkAt n.ws rs i := lkUp_succ n.ws rs i
    rw [lkAt_eq hx hrr] at hnext
    refine (gv_tup rfl (gs_cons (gv_name (gs_cons (gv_tup rfl (gs_cons (gv_tup rfl (gs_cons (gv_name (gs_cons (gv_name (gs_cons (gv_name (gs_nil (gs_cons (gv_tup rfl (gs_cons (gv_name (gs_cons (gv_name (gs_nil (gs_nil (gs_nil ?_)))))))))))))))))))))))
    refine sv_seq (N1 := fun ρ' μ' => μ' = [.ml ((lkUp n.ws rs i ++ loL x i lo).map Lk.d)] ∧ ρ' = [.d n.d, .d (rsD rs), .c 0, .d (.int (i : Int)), .d (.int (x.t : Int)), .d (.int (x.h : Int)), .d x.r.d, .d (oD lo), .d (oD hi)]) ?_ fun ρ' μ' h => ?_
    · cases lo with
      | none =>
        refine sv_if (b := false) (EvB.to (eb_B (ev_notN (x := .non) (ev_var rfl))) rfl) (fun h => nomatch h) fun _ => sv_next ⟨?_, rfl⟩
        rw [show loL x i none = [] from rfl, List.append_nil]
      | some lo =>
        refine sv_if (b := true) (EvB.to (eb_B (ev_notN (x := .int lo) (ev_var rfl))) rfl) (fun _ => ?_) fun h => nomatch h
        refine sv_app (j := 0) (P := Is (Lk.d ⟨x.t, x.h, -lo, i, 1⟩)) (ds := (lkUp n.ws rs i).map Lk.d) rfl rfl (by rw [List.length_map]; omega) (ev_tup1 (ea_cons (ev_var rfl) (ea_cons (ev_var rfl) (ea_cons (ev_un (ev_var rfl)) (ea_cons (ev_tup1 (ea_cons (ev_var rfl) (ea_cons ev_int ea_nil)) (show 2 ≤ 1000 by decide)) ea_nil)))) (show 4 ≤ 1000 by decide)) fun d e => ⟨?_, rfl⟩
        rw [show d = _ from e, List.map_append]
        rfl
    · obtain ⟨rfl, rfl⟩ := h
      cases hi with
      | none =>
        refine sv_if (b := false) (EvB.to (eb_B (ev_notN (x := .non) (ev_var rfl))) rfl) (fun h => nomatch h) fun _ => sv_next ⟨?_, _, _, _, _, _, _, rfl⟩
        rw [hnext, show hiL x i (lo, (none : Option Int)).2 = [] from rfl, List.append_nil]
      | some hi =>
        refine sv_if (b := true) (EvB.to (eb_B (ev_notN (x := .int hi) (ev_var rfl))) rfl) (fun _ => ?_) fun h => nomatch h
        refine sv_app (j := 0) (P := Is (Lk.d ⟨x.h, x.t, hi, i, -1⟩)) rfl rfl ?_ (ev_tup1 (ea_cons (ev_var rfl) (ea_cons (ev_var rfl) (ea_cons (ev_var rfl) (ea_cons (ev_tup1 (ea_cons (ev_var rfl) (ea_cons ev_int ea_nil)) (show 2 ≤ 1000 by decide)) ea_nil)))) (show 4 ≤ 1000 by decide)) fun d e => ⟨?_, _, _, _, _, _, _, rfl⟩
        · rw [List.length_map, List.length_append]
          have := loL_len x i lo
          omega
        · rw [show d = _ from e, hnext, ← List.append_assoc]
          show [Cell.ml ((lkUp n.ws rs i ++ loL x i lo).map Lk.d ++ [Lk.d ⟨x.h, x.t, hi, i, -1⟩])] = [Cell.ml (((lkUp n.ws rs i ++ loL x i lo) ++ hiL x i (some hi)).map Lk.d)]
          rw [List.map_append (l₁ := lkUp n.ws rs i ++ loL x i lo)]
          rfl
  · have he : (enumD (zipD (n.ws.map Wi.d) (rs.map rgD))).length = n.ws.length := by
      rw [enumD_len]
      unfold zipD
      rw [List.length_map, List.length_zip, List.length_map, List.length_map, hlen, Nat.min_self]
    rw [he] at h
    exact h
  · obtain ⟨rfl, a, b, c, d, e, g, rfl⟩ := h
    exact sv_frz (μ := []) (c := .ml _) [2] (i := 2) fr (sv_ret1 (ev_var rfl) rfl)
theorem SvP.use {W : Wd} {σ : L2.St} {H : Hp} {ρ : List Sl} {μ : List Cell} {ts : TS} {N : List Sl → List Cell → Prop} {R : D → List Cell → Prop} {E : Ends} (h : SvP W ts ρ μ N R) (s : Stt W σ H ρ μ) (qn : ∀ σ' H' ρ' μ', Ch W.A H H' → Stt W σ' H' ρ' μ' → N ρ' μ' → E.nx σ' H')
    (qr : ∀ v H' d μ', Ch W.A H H' → Fin0 W H' μ' → Rp W.CN W.V H' d v → R d μ' → E.rt v H') : ts E σ H := h σ H E s qn qr
theorem better_dec (far : Far) (e : Lk) : better far e = ((!(far e.a).isNone) && ((far e.b).isNone || decide ((far e.a).getD 0 + e.l < (far e.b).getD 0))) := by
  unfold better
  cases far e.a with
  | none => rfl
  | some x =>
    cases far e.b with
    | none => rfl
    | some z => rfl
theorem ok_shortened (g : mg "shortened" = some (.ref f)) (F : FnP K "shortened" s_shortened f fd) : Cal P w K mg base CX0 1 "shortened" ["links", "far", "ahead"] (spShort CN) := by
  refine cal_mk g F (fun _ _ _ _ _ _ us hl => match us, hl with | [_, _, _], _ => rfl) (F.ok sc_shortened (fun vs H Q E h => ?_) fun cdv A outer s H vs Q E hr h => ?_)
  · obtain ⟨U, p, q, vl, n, c, ls, far, ah, rfl, _⟩ := h
    rfl
  obtain ⟨U, p, q, vl, n, c, ls, far, ah, rfl, hpq, hUp, hUq, hU, rl, c1, c2, hls, h48, hc, hq⟩ := h
  refine ⟨_, PSs.nox (X := cxOf CX0 P w K mg base n_shortened "shortened" (defScope s_shortened) f cdv A outer s H E) (pss_cons (ps_set (i := 3) sc_shortened.nd rfl (by first | exact Or.inl rfl | exact Or.inr rfl) pe_non) (pss_cons (ps_for PassesOwn.never rfl (pi_list (pv 0)) (pg_tup rfl (pgs_cons (pg_name (i := 4) sc_shortened.nd rfl (by first | exact Or.inl rfl | exact Or.inr rfl)) (pgs_cons (pg_name (i := 5) sc_shortened.nd rfl (by first | exact Or.inl rfl | exact Or.inr rfl)) (pgs_cons (pg_name (i := 6) sc_shortened.nd rfl (by first | exact Or.inl rfl | exact Or.inr rfl)) (pgs_cons (pg_name (i := 7) sc_shortened.nd rfl (by first | exact Or.inl rfl | exact Or.inr rfl)) pgs_nil))))) (pss_one (ps_if (PW.pt (pw_and (pt_cmp (pc_notN (pe_ix ix_list (pv 1) (pv 4) (fun _ _ => rfl)))) (pw_and1 (PW.pt (pw_or (pt_cmp (pc_isN (pe_ix ix_list (pv 1) (pv 5) (fun _ _ => rfl)))) (pw_or1 (pt_cmpR op_lt (pe_op op_add (pe_ix ix_list (pv 1) (pv 4) (fun _ _ => rfl)) (pv 6)) (pe_ix ix_list (pv 1) (pv 5) (fun _ _ => rfl)) (nomark _)))))))) (pss_one (ps_asg (pe_tup (pa_cons (pe_op op_add (pe_ix ix_list (pv 1) (pv 4) (fun _ _ => rfl)) (pv 6)) (pa_cons (pe_tup (pa_cons (pv 4) (pa_cons (pv 7) pa_nil))) (pa_cons (pv 5) pa_nil)))) (pg_tup rfl (pgs_cons (pg_sub (pv 1) (pv 5) set_list) (pgs_cons (pg_sub (pv 2) (pv 5) (set_dict (hu_of hr))) (pgs_cons (pg_name (i := 3) sc_shortened.nd rfl (by first | exact Or.inl rfl | exact Or.inr rfl)) pgs_nil)))))) pss_nil))) (pss_one (ps_ret (pv 3))))), ?_⟩
  have st : Stt ⟨CN, U, U, [p, q], 2⟩ (L2.start n_shortened [vl, .ref p, .ref q]) H [.d (lksD ls), .c 0, .c 1, .no, .no, .no, .no, .no] [.ml (farL n far), .ah c ah] := by
    refine ⟨⟨fun j x h => ?_, hU, fun a h => h, fun a h => ?_, ?_, rfl, Nat.le_refl _⟩, fun i x h => ?_, rfl⟩
    · match j, h with
      | 0, h => cases h; exact ⟨p, rfl, c1⟩
      | 1, h => cases h; exact ⟨q, rfl, c2⟩
    · rcases List.mem_cons.mp h with z | z
      · rw [z]; exact hUp
      · rw [List.mem_singleton.mp z]; exact hUq
    · simp [hpq]
    · match i, h with
      | 0, h => cases h; exact ⟨vl, rfl, rl⟩
      | 1, h => cases h; exact ⟨p, rfl, rfl⟩
      | 2, h => cases h; exact ⟨q, rfl, rfl⟩
      | 3, h => cases h; trivial
      | 4, h => cases h; trivial
      | 5, h => cases h; trivial
      | 6, h => cases h; trivial
      | 7, h => cases h; trivial
  refine SvP.use (W := ⟨CN, U, U, [p, q], 2⟩) (N := fun _ _ => False) (R := fun d μ' => d = oN (shortM ls far ah).fd ∧ ∃ c', c' ≤ c + ls.length ∧ μ' = [.ml (farL n (shortM ls far ah).far), .ah c' (shortM ls far ah).ah]) ?_ st (fun _ _ _ _ _ _ n => n.elim) fun v H' d μ' e s' r' n => ?_
  · refine sv_let1 ev_non ?_
    refine sv_seq (N1 := fun ρ' μ' => ∃ c', c' ≤ c + ls.length ∧ μ' = [.ml (farL n (shortM ls far ah).far), .ah c' (shortM ls far ah).ah] ∧ ∃ x y z u, ρ' = [.d (lksD ls), .c 0, .c 1, .d (oN (shortM ls far ah).fd), x, y, z, u])
      (sv_for (ds := ls.map Lk.d) (fun i ρ' μ' => ∃ c', c' ≤ c + i ∧ μ' = [.ml (farL n ((ls.take i).foldl relax ⟨far, ah, none⟩).far), .ah c' ((ls.take i).foldl relax ⟨far, ah, none⟩).ah] ∧ ∃ x y z u, ρ' = [.d (lksD ls), .c 0, .c 1, .d (oN ((ls.take i).foldl relax ⟨far, ah, none⟩).fd), x, y, z, u])
        (iv_list (ev_var rfl)) ⟨c, Nat.le_refl _, rfl, _, _, _, _, rfl⟩ (fun i d ρ' μ' hd inv => ?_) fun ρ' μ' h => ?_) fun ρ' μ' h => ?_
    · obtain ⟨c', hc', rfl, x, y, z, u, rfl⟩ := inv
      obtain ⟨e, he, rfl⟩ := getMap hd
      have hi : i < ls.length := (List.getElem?_eq_some_iff.mp he).1
      obtain ⟨ha, hb, hab⟩ := hls e (List.mem_of_getElem? he)
      have hstep : (ls.take (i + 1)).foldl relax ⟨far, ah, none⟩ = relax ((ls.take i).foldl relax ⟨far, ah, none⟩) e := by
        rw [List.take_add_one, he, List.foldl_append]
        rfl
      rw [hstep]
      generalize hS : (ls.take i).foldl relax ⟨far, ah, none⟩ = S
      refine (gv_tup rfl (gs_cons (gv_name (gs_cons (gv_name (gs_cons (gv_name (gs_cons (gv_name (gs_nil ?_))))))))))
      refine sv_if (b := better S.far e) (EvB.to (eb_and (a := !(oD (S.far e.a)).isN) (b := (S.far e.b).isNone || decide ((S.far e.a).getD 0 + e.l < (S.far e.b).getD 0)) (eb_B (ev_notN (ev_ixC (j := 0) (k := (e.a : Int)) rfl rfl (farL_at S.far ha) (ev_var rfl)))) fun h1 => ?_) ?_) (fun hbt => ?_) fun hbt => ?_
      · refine EvB.to (eb_or (a := (oD (S.far e.b)).isN) (b := decide ((S.far e.a).getD 0 + e.l < (S.far e.b).getD 0)) (eb_B (ev_isN (ev_ixC (j := 0) (k := (e.b : Int)) rfl rfl (farL_at S.far hb) (ev_var rfl)))) fun h2 => ?_) (by rw [isN_oD])
        have f1 := farL_at S.far ha
        have f2 := farL_at S.far hb
        cases q1 : S.far e.a with
        | none => rw [q1] at h1; cases h1
        | some xa =>
          cases q2 : S.far e.b with
          | none => rw [q2] at h2; cases h2
          | some xb =>
            rw [q1] at f1
            rw [q2] at f2
            exact eb_T (ev_lt (i := xa + e.l) (j := xb) (ev_add (ev_ixC (j := 0) (k := (e.a : Int)) rfl rfl f1 (ev_var rfl)) (ev_var rfl)) (ev_ixC (j := 0) (k := (e.b : Int)) rfl rfl f2 (ev_var rfl)))
      · rw [isN_oD, better_dec]
      · obtain ⟨xa, q1, _⟩ := better_iff.mp hbt
        have f1 := farL_at S.far ha
        rw [q1] at f1
        have hrel : relax S e = ⟨up S.far e.b (some (xa + e.l)), up S.ah e.b (some (e.a, e.w, e.y)), some e.b⟩ := by
          unfold relax
          rw [if_pos hbt, q1]
          rfl
        rw [hrel]
        refine sv_asg (P := Is (.tup [.int (xa + e.l), .tup [.int (e.a : Int), .tup [.int (e.w : Int), .int e.y]], .int (e.b : Int)])) (ev_tup1 (ea_cons (ev_add (ev_ixC (j := 0) (k := (e.a : Int)) rfl rfl f1 (ev_var rfl)) (ev_var rfl)) (ea_cons (ev_tup1 (ea_cons (ev_var rfl) (ea_cons (ev_var rfl) ea_nil)) (show 2 ≤ 1000 by decide)) (ea_cons (ev_var rfl) ea_nil))) (show 3 ≤ 1000 by decide)) fun d hd' => ?_
        rw [show d = _ from hd']
        refine gv_tup rfl (gs_cons (gv_setL (j := 0) (k := e.b) (ds := farL n S.far) rfl rfl (by rw [farL_len]; exact hb) (ev_var rfl) (gs_cons (gv_setA (j := 1) (k := e.b) (c := c') (f := S.ah) rfl rfl (by omega) (ev_var rfl) (gs_cons (gv_name (gs_nil ⟨c' + 1, by omega, ?_, _, _, _, _, rfl⟩)))))))
        rw [show D.int (xa + e.l) = oD (some (xa + e.l)) from rfl, farL_set _ _ hb]
        rfl
      · have hrel : relax S e = S := by
          unfold relax
          rw [if_neg (by rw [hbt]; decide)]
        rw [hrel]
        exact sv_next ⟨c', by omega, rfl, _, _, _, _, rfl⟩
    · rw [List.length_map, List.take_length] at h
      exact h
    · obtain ⟨c', hc', rfl, x, y, z, u, rfl⟩ := h
      exact sv_ret1 (ev_var rfl) ⟨rfl, c', hc', rfl⟩
  obtain ⟨rfl, c', hc', rfl⟩ := n
  obtain ⟨a1, h1, k1⟩ := s'.cell 0 _ rfl
  cases h1
  obtain ⟨a2, h2, k2⟩ := s'.cell 1 _ rfl
  cases h2
  exact hq v H' c' e hc' k1 k2 r'
end
end RN
end

section
set_option Elab.async false
set_option linter.all false
set_option maxRecDepth 100000
set_option maxHeartbeats 4000000
set_option autoImplicit false
/-! RN_W6: the search, the way back. -/
namespace RN
open PySem PySem.Spec L2
section
variable {W : Wd} {ρ : List Sl} {μ : List Cell} {N : List Sl → List Cell → Prop} {R : D → List Cell → Prop} {t2 : TS} {E : XK}
theorem sv_short {i0 i1 i2 j1 j2 x n c : Nat} {ls : List Lk} {far : Far} {ah : Ahd} (h0 : ρ[i0]? = some (.d (lksD ls))) (h1 : ρ[i1]? = some (.c j1)) (h2 : ρ[i2]? = some (.c j2)) (m1 : μ[j1]? = some (.ml (farL n far))) (m2 : μ[j2]? = some (.ah c ah)) (hne : j1 ≠ j2)
    (hls : ∀ e ∈ ls, LkOk n e) (h48 : ls.length ≤ 48) (hc : c + ls.length ≤ 1000)
    (k : ∀ c', c' ≤ c + ls.length → SvP W t2 (ρ.set x (.d (oN (shortM ls far ah).fd))) ((μ.set j1 (.ml (farL n (shortM ls far ah).far))).set j2 (.ah c' (shortM ls far ah).ah)) N R) (hx : Nat.ble (x + 1) ρ.length = true := by rfl) :
    SvP W (tSeq (tAsg (tCall (spShort W.CN) [] E (tCons (tVar i0) (tCons (tVar i1) (tCons (tVar i2) tNil)))) (gName x)) t2) ρ μ N R := fun σ H En s qn qr => by
  obtain ⟨v0, s0, r0⟩ := s.sl i0 _ h0
  obtain ⟨a1, ha1, s1⟩ := s.sl i1 _ h1
  obtain ⟨a2, ha2, s2⟩ := s.sl i2 _ h2
  obtain ⟨a1', ha1', c1⟩ := s.sto.cell j1 _ m1
  rw [ha1] at ha1'
  cases ha1'
  obtain ⟨a2', ha2', c2⟩ := s.sto.cell j2 _ m2
  rw [ha2] at ha2'
  cases ha2'
  have hA1 : a1 ∈ W.A := List.mem_of_getElem? ha1
  have hA2 : a2 ∈ W.A := List.mem_of_getElem? ha2
  have hpq : a1 ≠ a2 := fun e => hne (nd_ixA s.sto.nd ha1 (by rw [e]; exact ha2))
  refine ⟨v0, s0, .ref a1, s1, .ref a2, s2, ?_⟩
  refine ⟨W.U, a1, a2, v0, n, c, ls, far, ah, rfl, hpq, s.sto.sub a1 hA1, s.sto.sub a2 hA2, s.sto.uok, r0, c1, c2, hls, h48, hc, fun v H' c' e hc' k1 k2 rv => ?_⟩
  have e' : Ch W.A H H' := e.sub fun b hb => by
    rcases List.mem_cons.mp hb with z | z
    · rw [z]; exact hA1
    · rw [List.mem_singleton.mp z]; exact hA2
  have kp : Kept W.U H H' := e'.kept s.sto.sub
  have sto : Sto W H' ((μ.set j1 (.ml (farL n (shortM ls far ah).far))).set j2 (.ah c' (shortM ls far ah).ah)) := by
    refine ⟨fun l cc hl => ?_, fun b hb z => ?_, s.sto.vsub, s.sto.sub, s.sto.nd, ?_, s.sto.n0⟩
    · by_cases e2 : l = j2
      · subst e2
        rw [List.getElem?_set_self (by rw [List.length_set]; exact (List.getElem?_eq_some_iff.mp m2).1)] at hl
        cases hl
        exact ⟨a2, ha2, k2⟩
      · rw [List.getElem?_set_ne (Ne.symm e2)] at hl
        by_cases e1 : l = j1
        · subst e1
          rw [List.getElem?_set_self (List.getElem?_eq_some_iff.mp m1).1] at hl
          cases hl
          exact ⟨a1, ha1, k1⟩
        · rw [List.getElem?_set_ne (Ne.symm e1)] at hl
          obtain ⟨b, hb, cb⟩ := s.sto.cell l cc hl
          refine ⟨b, hb, cb.stay kp fun o z => e b o (fun y => ?_) z⟩
          rcases List.mem_cons.mp y with y | y
          · exact e1 (nd_ixA s.sto.nd hb (by rw [y]; exact ha1))
          · exact e2 (nd_ixA s.sto.nd hb (by rw [List.mem_singleton.mp y]; exact ha2))
    · by_cases eb1 : b = a1
      · obtain ⟨xs, q1, _⟩ := k1
        rw [eb1, q1] at z
        cases z
      · by_cases eb2 : b = a2
        · obtain ⟨xs, q1, _⟩ := k2
          rw [eb2, q1] at z
          cases z
        · cases q : H b with
          | none => exact s.sto.uok b hb q
          | some o =>
            rw [e b o (fun y => by
              rcases List.mem_cons.mp y with y | y
              · exact eb1 y
              · exact eb2 (List.mem_singleton.mp y)) q] at z
            cases z
    · rw [List.length_set, List.length_set]
      exact s.sto.len
  have st := (s.kept kp sto).set (Nat.le_of_ble_eq_true hx) rv
  exact k c' hc' _ H' En st (fun σ2 H2 ρ2 μ2 e2 s2 n2 => qn σ2 H2 ρ2 μ2 (e'.trans e2) s2 n2) fun v H2 d μ2 e2 s2 r2 p2 => qr v H2 d μ2 (e'.trans e2) s2 r2 p2
end
structure Srch where
  n : Nat
  ls : List Lk
  far0 : Far
def Srch.ok (z : Srch) : Prop := z.n ≤ 12 ∧ (∀ e ∈ z.ls, LkOk z.n e) ∧ z.ls.length ≤ 48
def Srch.at_ (z : Srch) (t : Nat) : BS := bfAt z.ls z.far0 t
def Srch.post (z : Srch) (d : D) : Prop := (∃ t c, t ≤ z.n ∧ (z.at_ (t + 1)).fd = none ∧ d = .tup [.lst (farL z.n (z.at_ (t + 1)).far), .ah c (z.at_ (t + 1)).ah]) ∨
  ∃ v c, (z.at_ (z.n + 1)).fd = some v ∧ d = .tup [.non, .tup [.int (bk (z.at_ (z.n + 1)).ah z.n v : Nat), .ah c (z.at_ (z.n + 1)).ah]]
abbrev spShortest (CN : Addr) : Sp := spN (α := Srch) CN (fun z => [lksD z.ls, .lst (farL z.n z.far0)]) Srch.ok Srch.post
theorem srch_chase {z : Srch} (hz : z.ok) {v : Nat} (h : (z.at_ (z.n + 1)).fd = some v) : ∀ j, j ≤ z.n → ((z.at_ (z.n + 1)).ah (bk (z.at_ (z.n + 1)).ah j v)).isSome = true := fun j hj => by
  by_cases h0 : z.ls = []
  · have q := (bf_fd0 (far0 := z.far0) h0 (z.n + 1)).1
    rw [show (bfAt z.ls z.far0 (z.n + 1)).fd = some v from h] at q
    cases q
  · have q := (bf_fd (far0 := z.far0) h0 z.n).1 v h
    have I := runG_inv (n := z.n) h0 hz.2.1 z.far0 ((z.n + 1) * z.ls.length)
    obtain ⟨_, e2⟩ := bf_run (far0 := z.far0) h0 (z.n + 1)
    obtain ⟨_, q2⟩ := chase hz.2.1 I q j hj
    show ((bfAt z.ls z.far0 (z.n + 1)).ah (bk (bfAt z.ls z.far0 (z.n + 1)).ah j v)).isSome = true
    rw [e2]
    obtain ⟨e, _, _, ha, _⟩ := I.tm1 _ q2
    rw [ha]
    rfl
section
variable {P : Program} {w : World} {K : PySem.W.Frag} {mg : Str → Option Value} {base : Heap} {CN CP : Addr} {f : Addr} {fd : FuncData}
theorem ok_shortest (B : Bf mg) (C_shortened : Cal P w K mg base CX0 1 "shortened" ["links", "far", "ahead"] (spShort CN)) (g : mg "shortest" = some (.ref f)) (F : FnP K "shortest" s_shortest f fd) : Cal P w K mg base CX0 2 "shortest" ["links", "far"] (spShortest CN) := by
  refine cal_mk g F (fun _ _ _ _ _ _ us hl => match us, hl with | [_, _], _ => rfl) (fn_N _ _ _ F sc_shortest (fun _ => rfl) fun cdv A outer s H E hr z hz => ?_)
  obtain ⟨n, ls, far0⟩ := z
  obtain ⟨hn, hls, h48⟩ := id hz
  replace hn : n ≤ 12 := hn
  replace h48 : ls.length ≤ 48 := h48
  refine ⟨_, (pss_cons (ps_par3 (i := 1) (j := 3) (l := 4) rfl sc_shortest.nd rfl rfl rfl (by decide) (by decide) (by decide) rfl rfl rfl (pa_cons (pe_list B.b_list (pv 1)) (pa_cons pe_dnewK (pa_cons pe_non pa_nil))) (by rfl)) (pss_cons (ps_for PassesOwn.never rfl (pi_range1 rfl B.b_range (pa_cons (pe_op op_add (pe_len B.b_len (pv 1)) pe_int) pa_nil)) (pg_name (i := 2) sc_shortest.nd rfl (by first | exact Or.inl rfl | exact Or.inr rfl)) (pss_cons (ps_set (i := 4) sc_shortest.nd rfl (by first | exact Or.inl rfl | exact Or.inr rfl) (pe_own C_shortened (hr.mono (by decide)) rfl pass0 (pa_cons (pv 0) (pa_cons (pv 1) (pa_cons (pv 3) pa_nil))))) (pss_one (ps_if (pt_cmp (pc_isN (pv 4))) (pss_one (ps_ret (pe_tup (pa_cons (pv 1) (pa_cons (pv 3) pa_nil))))) pss_nil)))) (pss_cons (ps_for PassesOwn.never rfl (pi_range1 rfl B.b_range (pa_cons (pe_len B.b_len (pv 1)) pa_nil)) (pg_name (i := 2) sc_shortest.nd rfl (by first | exact Or.inl rfl | exact Or.inr rfl)) (pss_one (ps_set (i := 4) sc_shortest.nd rfl (by first | exact Or.inl rfl | exact Or.inr rfl) (pe_ix ix_tup (pe_dget (hu_of hr) (pv 3) (pv 4) (fun _ _ => rfl)) pe_int (fun _ _ => rfl))))) (pss_one (ps_ret (pe_tup (pa_cons pe_non (pa_cons (pe_tup (pa_cons (pv 4) (pa_cons (pv 3) pa_nil))) pa_nil)))))))), fun U => ?_⟩
  refine sv_par3F (ef_list (.inl rfl) (ev_var rfl)) (fun p1 c1 e1 => ef_dnewK) (fun p1 c1 p2 c2 e1 e2 => ev_non) fun p1 c1 p2 c2 d f1 f2 e1 e2 e3 => ?_
  rw [show c1 = _ from e1, show c2 = _ from e2, show d = _ from e3]
  have ht : ((((farL n far0).length : Nat) : Int) + 1).toNat = n + 1 := by
    rw [farL_len]
    omega
  refine sv_seq (N1 := fun ρ' μ' => ∃ c v x, (bfAt ls far0 (n + 1)).fd = some v ∧ μ' = [.ml (farL n (bfAt ls far0 (n + 1)).far), .ah c (bfAt ls far0 (n + 1)).ah] ∧ ρ' = [.d (lksD ls), .c 0, x, .c 1, .d (.int (v : Int))])
    (sv_for (ds := upto ((((farL n far0).length : Nat) : Int) + 1).toNat) (fun i ρ' μ' => ∃ c x, c ≤ i * 48 ∧ (i = 0 ∨ ∃ v, (bfAt ls far0 i).fd = some v) ∧ μ' = [.ml (farL n (bfAt ls far0 i).far), .ah c (bfAt ls far0 i).ah] ∧ ρ' = [.d (lksD ls), .c 0, x, .c 1, .d (oN (bfAt ls far0 i).fd)])
      (iv_rng (ea_cons (ev_add (ev_lenC rfl rfl) ev_int) ea_nil) (by rw [farL_len]; omega)) ⟨0, .no, Nat.le_refl _, .inl rfl, rfl, rfl⟩ (fun i d ρ' μ' hd inv => ?_) fun ρ' μ' h => ?_) fun ρ' μ' h => ?_
  · obtain ⟨c, x, hc, hfd, rfl, rfl⟩ := inv
    have hi : i < n + 1 := by
      have := (List.getElem?_eq_some_iff.mp hd).1
      rw [upto_len, ht] at this
      exact this
    rw [ht, upto_get hi] at hd
    cases hd
    refine gv_name (sv_short (n := n) (far := (bfAt ls far0 i).far) (ah := (bfAt ls far0 i).ah) (c := c) (j1 := 0) (j2 := 1) rfl rfl rfl rfl rfl (by decide) hls h48 (by omega) fun c' hc' => ?_)
    have hstep : bfAt ls far0 (i + 1) = shortM ls (bfAt ls far0 i).far (bfAt ls far0 i).ah := rfl
    rw [← hstep]
    refine sv_if (b := (oN (bfAt ls far0 (i + 1)).fd).isN) (eb_B (ev_isN (ev_var rfl))) (fun hb => ?_) fun hb => ?_
    · refine sv_frz (W := Wd.ext ⟨CN, U, U, [], 0⟩ p1) (μ := [.ml (farL n (bfAt ls far0 (i + 1)).far)]) (c := .ah c' (bfAt ls far0 (i + 1)).ah) [1, 3] (i := 3) f2 ?_
      refine sv_frz (W := ⟨CN, U, U, [], 0⟩) (μ := []) (c := .ml (farL n (bfAt ls far0 (i + 1)).far)) [1, 3] (i := 1) f1 ?_
      refine sv_ret1 (ev_tup1 (ea_cons (ev_var rfl) (ea_cons (ev_var rfl) ea_nil)) (show 2 ≤ 1000 by decide)) (.inl ⟨i, c', by show i ≤ n; omega, ?_, rfl⟩)
      rw [isN_oN] at hb
      exact Option.isNone_iff_eq_none.mp hb
    · rw [isN_oN] at hb
      refine sv_next ⟨c', _, by omega, .inr ?_, rfl, rfl⟩
      cases q : (bfAt ls far0 (i + 1)).fd with
      | none => rw [q] at hb; cases hb
      | some v => exact ⟨v, rfl⟩
  · rw [upto_len, ht] at h
    obtain ⟨c, x, hc, hfd, rfl, rfl⟩ := h
    rcases hfd with q | ⟨v, q⟩
    · omega
    · refine ⟨c, v, x, q, rfl, ?_⟩
      rw [q]
      rfl
  · obtain ⟨c, v, x, hv, rfl, rfl⟩ := h
    refine sv_frz (W := Wd.ext ⟨CN, U, U, [], 0⟩ p1) (μ := [.ml (farL n (bfAt ls far0 (n + 1)).far)]) (c := .ah c (bfAt ls far0 (n + 1)).ah) [1, 3, 4] (i := 3) f2 ?_
    refine sv_frz (W := ⟨CN, U, U, [], 0⟩) (μ := []) (c := .ml (farL n (bfAt ls far0 (n + 1)).far)) [1, 3, 4] (i := 1) f1 ?_
    have ht2 : (((farL n (bfAt ls far0 (n + 1)).far).length : Nat) : Int).toNat = n := by
      rw [farL_len]
      omega
    refine sv_seq (N1 := fun ρ' μ' => ∃ x, μ' = [] ∧ ρ' = [.no, .d (.lst (farL n (bfAt ls far0 (n + 1)).far)), x, .d (.ah c (bfAt ls far0 (n + 1)).ah), .d (.int (bk (bfAt ls far0 (n + 1)).ah n v : Nat))])
      (sv_for (ds := upto (((farL n (bfAt ls far0 (n + 1)).far).length : Nat) : Int).toNat) (fun i ρ' μ' => ∃ x, μ' = [] ∧ ρ' = [.no, .d (.lst (farL n (bfAt ls far0 (n + 1)).far)), x, .d (.ah c (bfAt ls far0 (n + 1)).ah), .d (.int (bk (bfAt ls far0 (n + 1)).ah i v : Nat))])
        (iv_rng (ea_cons (ev_lenL (ev_var rfl)) ea_nil) (by rw [farL_len]; omega)) ⟨.no, rfl, rfl⟩ (fun i d ρ' μ' hd inv => ?_) fun ρ' μ' h => ?_) fun ρ' μ' h => ?_
    · obtain ⟨x, rfl, rfl⟩ := inv
      have hi : i < n := by
        have := (List.getElem?_eq_some_iff.mp hd).1
        rw [upto_len, ht2] at this
        exact this
      have hch := srch_chase hz hv i (by show i ≤ n; omega)
      replace hch : ((bfAt ls far0 (n + 1)).ah (bk (bfAt ls far0 (n + 1)).ah i v)).isSome = true := hch
      obtain ⟨⟨b, w', y⟩, hb⟩ := Option.isSome_iff_exists.mp hch
      refine gv_name (sv_set (P := Is (.int (b : Int))) (ev_ixT (i := 0) (ds := [.int (b : Int), .tup [.int (w' : Int), .int y]]) rfl (ev_dgetA (ev_var rfl) (ev_var rfl) hb) ev_int) fun d' e' => ⟨.d d, rfl, ?_⟩)
      rw [show d' = _ from e']
      have : bk (bfAt ls far0 (n + 1)).ah (i + 1) v = b := by
        show pre _ _ = b
        unfold pre
        rw [hb]
      rw [this]
      rfl
    · rw [upto_len, ht2] at h
      exact h
    · obtain ⟨x, rfl, rfl⟩ := h
      exact sv_ret1 (ev_tup1 (ea_cons ev_non (ea_cons (ev_tup1 (ea_cons (ev_var rfl) (ea_cons (ev_var rfl) ea_nil)) (show 2 ≤ 1000 by decide)) ea_nil)) (show 2 ≤ 1000 by decide)) (.inr ⟨v, c, hv, rfl⟩)
/-! ### the way back -/
def stD (p : Nat × Int) : D := .tup [.int (p.1 : Int), .int p.2]
def stAt (ah : Ahd) (k : Nat) : Nat × Int := match ah k with
  | some p => p.2
  | none => (0, 0)
def wayB (ah : Ahd) (goal m : Nat) : List (Nat × Int) := ((List.range m).map fun j => stAt ah (bk ah j goal)).reverse
structure Bck where
  c : Nat
  ah : Ahd
  goal : Nat
  stop : Nat
  m : Nat
structure Bck.ok (z : Bck) : Prop where
  m1 : 1 ≤ z.m
  m2 : z.m ≤ 100
  end_ : bk z.ah z.m z.goal = z.stop
  not_ : ∀ j, 1 ≤ j → j < z.m → bk z.ah j z.goal ≠ z.stop
  is_ : ∀ j, j < z.m → (z.ah (bk z.ah j z.goal)).isSome = true
def stepsD (l : List (Nat × Int)) : D := .tup (l.map stD)
abbrev spBack (CN : Addr) : Sp := spG (α := Bck) CN (fun z => [.ah z.c z.ah, .int (z.goal : Int), .int (z.stop : Int)]) Bck.ok fun z => stepsD (wayB z.ah z.goal z.m)
theorem plnL_st (l : List (Nat × Int)) : plnL (l.map stD) = true := by
  induction l with
  | nil => rfl
  | cons a l ih =>
    show ((stD a).pln && plnL (l.map stD)) = true
    rw [ih]
    rfl
theorem ok_steps_back (B : Bf mg) (g : mg "steps_back" = some (.ref f)) (F : FnP K "steps_back" s_steps_back f fd) : Cal P w K mg base CX0 1 "steps_back" ["ahead", "goal", "stop"] (spBack CN) := by
  refine cal_mk g F (fun _ _ _ _ _ _ us hl => match us, hl with | [_, _, _], _ => rfl) (fn_N _ _ _ F sc_steps_back (fun _ => rfl) fun cdv A outer s H E hr z hz => ?_)
  obtain ⟨c, ah, goal, stop, m⟩ := z
  obtain ⟨hm1, hm2, hend, hnot, his⟩ := hz
  replace hm1 : 1 ≤ m := hm1
  replace hm2 : m ≤ 100 := hm2
  replace hend : bk ah m goal = stop := hend
  replace hnot : ∀ j, 1 ≤ j → j < m → bk ah j goal ≠ stop := hnot
  replace his : ∀ j, j < m → (ah (bk ah j goal)).isSome = true := his
  refine ⟨_, (pss_cons (ps_par (i := 3) (j := 4) rfl sc_steps_back.nd rfl rfl (by decide) rfl rfl (pa_cons (pe_lst pa_nil) (pa_cons (pv 1) pa_nil)) (by rfl)) (pss_cons (ps_while PassesOwn.never (PW.pt (pw_or (pt_cmpR (op_eqP hr.units) (pv 3) (pe_lst pa_nil) (nomark _)) (pw_or1 (pt_cmpR op_ne (pv 4) (pv 2) (nomark _))))) (pss_cons (ps_asg (pe_dget (hu_of hr) (pv 0) (pv 4) (fun _ _ => rfl)) (pg_tup rfl (pgs_cons (pg_name (i := 4) sc_steps_back.nd rfl (by first | exact Or.inl rfl | exact Or.inr rfl)) (pgs_cons (pg_name (i := 5) sc_steps_back.nd rfl (by first | exact Or.inl rfl | exact Or.inr rfl)) pgs_nil)))) (pss_one (ps_expr (pe_bm PySem.F.plainAttrs_list PySem.F.slot_list_append PySem.F.type_list_append mt_append (pv 3) (pa_cons (pv 5) pa_nil)))))) (pss_one (ps_ret (pe_tuple B.b_tuple (pe_revL (pv 3))))))), fun U => ?_⟩
  refine sv_parF ef_nil (fun p1 c1 e1 => ev_var (x := .int (goal : Int)) rfl) fun p1 c1 d fr e1 e2 => ?_
  rw [show c1 = _ from e1, show d = _ from e2]
  refine sv_seq (N1 := fun ρ' μ' => ∃ x, μ' = [.ml (((List.range m).map fun j => stAt ah (bk ah j goal)).map stD)] ∧ ρ' = [.d (.ah c ah), .d (.int (goal : Int)), .d (.int (stop : Int)), .c 0, .d (.int (bk ah m goal : Nat)), x])
    (sv_while (fun k ρ' μ' => ∃ j x, k + j = m ∧ μ' = [.ml (((List.range j).map fun j => stAt ah (bk ah j goal)).map stD)] ∧ ρ' = [.d (.ah c ah), .d (.int (goal : Int)), .d (.int (stop : Int)), .c 0, .d (.int (bk ah j goal : Nat)), x]) m ⟨0, .no, by omega, rfl, rfl⟩ fun k ρ' μ' inv => ?_) fun ρ' μ' h => ?_
  · obtain ⟨j, x, hk, rfl, rfl⟩ := inv
    refine ⟨decide (j < m), EvB.to (eb_or (a := (((List.range j).map fun j => stAt ah (bk ah j goal)).map stD).isEmpty) (b := !decide ((bk ah j goal : Int) = (stop : Int))) (eb_look (i := 3) (j := 0) rfl rfl rfl fun U' => eb_T (EvP.to (ev_op1 (ev_var rfl) (ev_lst1 ea_nil) (od_eqP (by show plnL _ = true; exact plnL_st _) rfl (.inr (by decide)))) (congrArg D.bl (eqv_nilL _)))) fun _ => eb_T (ev_neI (ev_var rfl) (ev_var rfl))) ?_, fun hb => ?_, fun hb => ?_⟩
    · by_cases h0 : j = 0
      · subst h0
        rw [show decide (0 < m) = true from decide_eq_true (by omega)]
        rfl
      · have : (((List.range j).map fun j => stAt ah (bk ah j goal)).map stD).isEmpty = false := by
          cases q : (((List.range j).map fun j => stAt ah (bk ah j goal)).map stD) with
          | nil =>
            have := congrArg List.length q
            rw [List.length_map, List.length_map, List.length_range] at this
            exact absurd this h0
          | cons a b => rfl
        rw [this]
        by_cases hj : j < m
        · have := hnot j (by omega) hj
          rw [decide_eq_true hj, decide_eq_false (by omega)]
          rfl
        · have : j = m := by omega
          rw [decide_eq_false hj, this, hend, decide_eq_true rfl]
          rfl
    · rw [decide_eq_true_eq] at hb
      obtain ⟨⟨b, w', y⟩, hb'⟩ := Option.isSome_iff_exists.mp (his j hb)
      have hnx : bk ah (j + 1) goal = b := by
        show pre ah (bk ah j goal) = b
        unfold pre
        rw [hb']
      refine sv_seq (N1 := fun ρ' μ' => μ' = [.ml (((List.range j).map fun j => stAt ah (bk ah j goal)).map stD)] ∧ ρ' = [.d (.ah c ah), .d (.int (goal : Int)), .d (.int (stop : Int)), .c 0, .d (.int (b : Int)), .d (stD (w', y))]) (sv_asg (ev_dgetA (ev_var rfl) (ev_var rfl) hb') fun d hd => ?_) fun ρ' μ' h => ?_
      · rw [show d = _ from hd]
        refine (gv_tup rfl (gs_cons (gv_name (gs_cons (gv_name (gs_nil ?_))))))
        exact ⟨rfl, rfl⟩
      · obtain ⟨rfl, rfl⟩ := h
        refine sv_app (j := 0) (P := Is (stD (w', y))) rfl rfl (by rw [List.length_map, List.length_map, List.length_range]; omega) (ev_var rfl) fun d e => ⟨k - 1, by omega, j + 1, .d (stD (w', y)), by omega, ?_, ?_⟩
        · rw [show d = _ from e, List.range_succ, List.map_append, List.map_append]
          show [Cell.ml _] = [Cell.ml (_ ++ [stD (stAt ah (bk ah j goal))])]
          unfold stAt
          rw [hb']
        · rw [hnx]
    · rw [decide_eq_false_iff_not] at hb
      have : j = m := by omega
      subst this
      exact ⟨x, rfl, rfl⟩
  · obtain ⟨x, rfl, rfl⟩ := h
    refine sv_frz (μ := []) (c := .ml _) [3] (i := 3) fr (sv_ret1 (ev_cb1 (ev_revL (ev_var rfl)) cb_tup) ?_)
    show D.tup _ = stepsD (wayB ah goal m)
    unfold stepsD wayB
    rw [List.map_reverse]
end
end RN
end

section
set_option Elab.async false
set_option linter.all false
set_option maxRecDepth 100000
set_option maxHeartbeats 2000000
set_option autoImplicit false
/-! RN_BF2: rings, ways, potentials. -/
namespace RN
open PySem
/-- a ring of links, shorter than nothing -/
structure Ring (ls : List Lk) (F : Nat → Lk) (m : Nat) : Prop where
  m1 : 1 ≤ m
  mem : ∀ j, j < m → F j ∈ ls
  link : ∀ j, j + 1 < m → (F j).b = (F (j + 1)).a
  close : (F (m - 1)).b = (F 0).a
  inj : ∀ i j, i < m → j < m → (F i).a = (F j).a → i = j
  neg : psum (fun j => (F j).l) m < 0
/-- a way of links without a knot twice -/
structure Way (ls : List Lk) (F : Nat → Lk) (m s g : Nat) (x : Int) : Prop where
  mem : ∀ j, j < m → F j ∈ ls
  link : ∀ j, j + 1 < m → (F j).b = (F (j + 1)).a
  nil : m = 0 → s = g
  fst : 1 ≤ m → (F 0).a = s
  lst : 1 ≤ m → (F (m - 1)).b = g
  inj : ∀ i j, i < m → j < m → (F i).a = (F j).a → i = j
  fresh : ∀ i, i < m → (F i).a ≠ g
  len : psum (fun j => (F j).l) m = x
def stepsOf (F : Nat → Lk) (m : Nat) : List (Nat × Int) := (List.range m).map fun j => ((F j).w, (F j).y)
def Pot (ls : List Lk) (π : Nat → Int) : Prop := ∀ e ∈ ls, π e.b ≤ π e.a + e.l
theorem psum_shift (f : Nat → Int) : ∀ m, psum f (m + 1) = f 0 + psum (fun j => f (j + 1)) m
  | 0 => by
    show (0 : Int) + f 0 = f 0 + 0
    omega
  | m + 1 => by
    show psum f (m + 1) + f (m + 1) = f 0 + (psum (fun j => f (j + 1)) m + f (m + 1))
    rw [psum_shift f m]
    omega
theorem psum_rev (f : Nat → Int) : ∀ m, psum (fun j => f (m - 1 - j)) m = psum f m
  | 0 => rfl
  | m + 1 => by
    rw [psum_shift]
    show f (m + 1 - 1 - 0) + psum (fun j => f (m + 1 - 1 - (j + 1))) m = psum f m + f m
    have e : (fun j => f (m + 1 - 1 - (j + 1))) = fun j => f (m - 1 - j) := by
      funext j
      congr 1
      omega
    rw [e, psum_rev f m, show m + 1 - 1 - 0 = m by omega]
    omega
theorem psum_congr {f g : Nat → Int} : ∀ {m : Nat}, (∀ i, i < m → f i = g i) → psum f m = psum g m
  | 0, _ => rfl
  | m + 1, h => by
    show psum f m + f m = psum g m + g m
    rw [psum_congr fun i hi => h i (by omega), h m (by omega)]
theorem Ring.pos {ls : List Lk} {F : Nat → Lk} {m : Nat} (r : Ring ls F m) {π : Nat → Int} (p : Pot ls π) : False := by
  have tele : ∀ i, i < m → psum (fun j => (F j).l) (i + 1) ≥ π (F i).b - π (F 0).a := fun i => by
    induction i with
    | zero =>
      intro h
      have := p _ (r.mem 0 h)
      show (0 : Int) + (F 0).l ≥ _
      omega
    | succ i ih =>
      intro h
      have h1 := ih (by omega)
      have h2 := p _ (r.mem (i + 1) h)
      have h3 := r.link i h
      rw [← h3] at h2
      show psum (fun j => (F j).l) (i + 1) + (F (i + 1)).l ≥ _
      omega
  have h := tele (m - 1) (by have := r.m1; omega)
  rw [show m - 1 + 1 = m by have := r.m1; omega, r.close] at h
  have := r.neg
  omega
section
variable {z : Srch}
theorem wayB_eq {ah : Ahd} {goal m : Nat} {f : Nat → Lk} (h : ∀ i, i < m → ah (bk ah i goal) = some ((f i).a, (f i).w, (f i).y)) : wayB ah goal m = stepsOf (fun j => f (m - 1 - j)) m := by
  unfold wayB stepsOf
  refine List.ext_getElem (by simp) fun i h1 h2 => ?_
  simp only [List.length_reverse, List.length_map, List.length_range] at h1
  rw [List.getElem_reverse, List.getElem_map, List.getElem_map, List.getElem_range, List.getElem_range]
  simp only [List.length_map, List.length_range]
  unfold stAt
  rw [h (m - 1 - i) (by omega)]
/-- a search that did not end: a ring -/
theorem loop_ring (hz : z.ok) {v : Nat} (h : (z.at_ (z.n + 1)).fd = some v) (c : Nat) : ∃ m F, Bck.ok ⟨c, (z.at_ (z.n + 1)).ah, bk (z.at_ (z.n + 1)).ah z.n v, bk (z.at_ (z.n + 1)).ah z.n v, m⟩ ∧ Ring z.ls F m ∧
    wayB (z.at_ (z.n + 1)).ah (bk (z.at_ (z.n + 1)).ah z.n v) m = stepsOf F m := by
  by_cases h0 : z.ls = []
  · have q := (bf_fd0 (far0 := z.far0) h0 (z.n + 1)).1
    rw [show (bfAt z.ls z.far0 (z.n + 1)).fd = some v from h] at q
    cases q
  · have q := (bf_fd (far0 := z.far0) h0 z.n).1 v h
    have I := runG_inv (n := z.n) h0 hz.2.1 z.far0 ((z.n + 1) * z.ls.length)
    obtain ⟨_, e2⟩ := bf_run (far0 := z.far0) h0 (z.n + 1)
    have hah : (z.at_ (z.n + 1)).ah = (runG z.ls z.far0 ((z.n + 1) * z.ls.length)).ah := e2
    rw [hah]
    generalize hg : runG z.ls z.far0 ((z.n + 1) * z.ls.length) = g at I q
    obtain ⟨hC, m, hm1, hm2, hm3, hm4⟩ := ring (n := z.n) g.ah (fun v => g.tm v ≠ 0) (fun v hv => by
      obtain ⟨e, he, hb, _⟩ := I.tm1 v hv
      rw [← hb]
      exact (hz.2.1 e he).2.1) v fun i hi => (chase hz.2.1 I q i hi).2
    have hk : ∀ i, g.tm (bk g.ah i (bk g.ah z.n v)) ≠ 0 := fun i => by
      rw [← bk_add]
      exact hC _
    generalize bk g.ah z.n v = k at hm3 hm4 hk
    obtain ⟨f, hf⟩ := back_links I k
    have hneg := (ring_neg hz.2.1 I hk hm1 hm3 hf).1
    have hdist : ∀ i j, i < j → j < m → bk g.ah i k ≠ bk g.ah j k := fun i j hij hj e => by
      refine hm4 (m - j + i) (by omega) (by omega) ?_
      rw [bk_add, e, ← bk_add, show m - j + j = m by omega, hm3]
    refine ⟨m, fun j => f (m - 1 - j), ⟨hm1, by show m ≤ 100; have := hz.1; omega, hm3, hm4, fun j hj => by
      show (g.ah (bk g.ah j k)).isSome = true
      rw [(hf j (hk j)).2.2.2.1]
      rfl⟩, ⟨hm1, fun j hj => (hf _ (hk _)).1, fun j hj => ?_, ?_, fun i j hi hj e => ?_, ?_⟩, wayB_eq fun i hi => (hf i (hk i)).2.2.2.1⟩
    · show (f (m - 1 - j)).b = (f (m - 1 - (j + 1))).a
      rw [(hf _ (hk _)).2.1, (hf _ (hk _)).2.2.1, show m - 1 - (j + 1) + 1 = m - 1 - j by omega]
    · show (f (m - 1 - (m - 1))).b = (f (m - 1 - 0)).a
      rw [(hf _ (hk _)).2.1, (hf _ (hk _)).2.2.1, show m - 1 - (m - 1) = 0 by omega, show m - 1 - 0 + 1 = m by omega, hm3]
      rfl
    · have e' : (f (m - 1 - i)).a = (f (m - 1 - j)).a := e
      rw [(hf _ (hk _)).2.2.1, (hf _ (hk _)).2.2.1] at e'
      have key : ∀ p q, p < m → q < m → bk g.ah (p + 1) k = bk g.ah (q + 1) k → p = q := fun p q hp hq e => by
        by_cases hpq : p = q
        · exact hpq
        · exfalso
          have aux : ∀ p q, p < q → q < m → bk g.ah (p + 1) k = bk g.ah (q + 1) k → False := fun p q hpq hq e => by
            by_cases hqm : q + 1 = m
            · rw [hqm, hm3] at e
              exact hdist 0 (p + 1) (by omega) (by omega) e.symm
            · exact hdist (p + 1) (q + 1) (by omega) (by omega) e
          rcases Nat.lt_or_ge p q with w | w
          · exact aux p q w hq e
          · exact aux q p (by omega) hp e.symm
      have := key _ _ (by omega) (by omega) e'
      omega
    · rw [psum_rev (fun j => (f j).l) m]
      exact hneg
/-- the search from one knot, where a potential is -/
def from1 (s : Nat) : Far := fun v => if v = s then some 0 else none
theorem run_pot {ls : List Lk} {π : Nat → Int} (p : Pot ls π) (h0 : ls ≠ []) (s : Nat) : ∀ t, (∀ v x, (runG ls (from1 s) t).far v = some x → π v - π s ≤ x) ∧ ∃ x, (runG ls (from1 s) t).far s = some x ∧ x ≤ 0
  | 0 => by
    refine ⟨fun v x h => ?_, 0, if_pos rfl, Int.le_refl _⟩
    have h' : (if v = s then some (0 : Int) else none) = some x := h
    split at h'
    · rename_i e
      cases h'
      rw [e]
      omega
    · cases h'
  | t + 1 => by
    obtain ⟨h1, x0, h2, h3⟩ := run_pot p h0 s t
    show (∀ v x, (gstep t (runG ls (from1 s) t) (lkN ls t)).far v = some x → π v - π s ≤ x) ∧ ∃ x, (gstep t (runG ls (from1 s) t) (lkN ls t)).far s = some x ∧ x ≤ 0
    have hp := p _ (lkN_mem h0 t)
    generalize lkN ls t = e at hp
    generalize runG ls (from1 s) t = g at h1 h2
    unfold gstep
    by_cases hb : better g.far e = true
    · rw [if_pos hb]
      obtain ⟨xa, q1, q2⟩ := better_iff.mp hb
      have hxa := h1 _ _ q1
      rw [q1]
      refine ⟨fun v x h => ?_, ?_⟩
      · have h' : up g.far e.b (some (xa + e.l)) v = some x := h
        by_cases hv : v = e.b
        · subst hv
          rw [up_same] at h'
          cases h'
          omega
        · rw [up_ne hv] at h'
          exact h1 v x h'
      · by_cases hs : s = e.b
        · subst hs
          have := q2 x0 h2
          exact ⟨xa + e.l, up_same _ _ _, by omega⟩
        · refine ⟨x0, ?_, h3⟩
          show up g.far e.b _ s = _
          rw [up_ne hs]
          exact h2
    · rw [if_neg hb]
      exact ⟨h1, x0, h2, h3⟩
theorem from_conv (hz : z.ok) {π : Nat → Int} (p : Pot z.ls π) {v : Nat} : (z.at_ (z.n + 1)).fd ≠ some v := fun h => by
  obtain ⟨m, F, _, r, _⟩ := loop_ring hz h 0
  exact r.pos p
/-- what is known of the distances from a knot -/
structure Apart (ls : List Lk) (n s : Nat) (far : Far) (ah : Ahd) : Prop where
  feas : Feas ls far
  st0 : far s = some 0
  way : ∀ g x c, far g = some x → g ≠ s → ∃ m F, Bck.ok ⟨c, ah, g, s, m⟩ ∧ Way ls F m s g x ∧ wayB ah g m = stepsOf F m
  out : ∀ v, n ≤ v → v ≠ s → far v = none
theorem apart (hz : z.ok) {s : Nat} (hs : z.far0 = from1 s) {π : Nat → Int} (p : Pot z.ls π) {t : Nat} (ht : (z.at_ (t + 1)).fd = none) : Apart z.ls z.n s (z.at_ (t + 1)).far (z.at_ (t + 1)).ah := by
  obtain ⟨h1, h2, h3⟩ := bf_feas (ls := z.ls) (far0 := z.far0) ht
  have h2' : (z.at_ (t + 1)).far = (bfAt z.ls z.far0 t).far := h2
  have h3' : (z.at_ (t + 1)).ah = (bfAt z.ls z.far0 t).ah := h3
  rw [h2', h3']
  by_cases h0 : z.ls = []
  · obtain ⟨_, q1, q2⟩ := bf_fd0 (far0 := z.far0) h0 t
    refine ⟨h1, ?_, fun g x c h hne => ?_, fun v _ hne => ?_⟩
    · rw [q1, hs]
      exact if_pos rfl
    · rw [q1, hs] at h
      rw [show from1 s g = none from if_neg hne] at h
      cases h
    · rw [q1, hs]
      exact if_neg hne
  · obtain ⟨e1, e2⟩ := bf_run (far0 := z.far0) h0 t
    rw [e1, e2]
    rw [e1] at h1
    have I := runG_inv (n := z.n) h0 hz.2.1 z.far0 (t * z.ls.length)
    obtain ⟨q1, x0, q2, q3⟩ := run_pot p h0 s (t * z.ls.length)
    rw [← hs] at q1 q2
    generalize runG z.ls z.far0 (t * z.ls.length) = g at h1 I q1 q2
    have hx0 : x0 = 0 := by
      have := q1 s x0 q2
      omega
    rw [hx0] at q2
    have htm : ∀ v x, g.far v = some x → v ≠ s → g.tm v ≠ 0 := fun v x hv hne e => by
      have := (I.tm0 v e).1
      rw [hv, hs, show from1 s v = none from if_neg hne] at this
      cases this
    refine ⟨h1, q2, fun goal x c hgx hne => ?_, fun v hv hne => ?_⟩
    · have step : ∀ i, (∀ j, j ≤ i → bk g.ah j goal ≠ s) → ∀ j, j ≤ i + 1 → ∃ y, g.far (bk g.ah j goal) = some y := fun i hi j => by
        induction j with
        | zero => exact fun _ => ⟨x, hgx⟩
        | succ j ih =>
          intro hj
          obtain ⟨y, hy⟩ := ih (by omega)
          obtain ⟨e, he, hb, ha, x', z', r1, r2, _⟩ := I.tm1 _ (htm _ y hy (hi j (by omega)))
          refine ⟨z', ?_⟩
          show g.far (pre g.ah (bk g.ah j goal)) = _
          unfold pre
          rw [ha]
          exact r2
      obtain ⟨f, hf⟩ := back_links I goal
      have hreach : ∃ i, i ≤ z.n ∧ bk g.ah i goal = s := by
        by_cases q : ∃ i, i ≤ z.n ∧ bk g.ah i goal = s
        · exact q
        · exfalso
          have hno : ∀ j, j ≤ z.n → bk g.ah j goal ≠ s := fun j hj e => q ⟨j, hj, e⟩
          have hsome := step z.n hno
          have htms : ∀ j, j ≤ z.n → g.tm (bk g.ah j goal) ≠ 0 := fun j hj => by
            obtain ⟨y, hy⟩ := hsome j (by omega)
            exact htm _ y hy (hno j hj)
          obtain ⟨hC, m, hm1, hm2, hm3, hm4⟩ := ring (n := z.n) g.ah (fun v => g.tm v ≠ 0) (fun v hv => by
            obtain ⟨e, he, hb, _⟩ := I.tm1 v hv
            rw [← hb]
            exact (hz.2.1 e he).2.1) goal htms
          have hk : ∀ i, g.tm (bk g.ah i (bk g.ah z.n goal)) ≠ 0 := fun i => by
            rw [← bk_add]
            exact hC _
          obtain ⟨f2, hf2⟩ := back_links I (bk g.ah z.n goal)
          obtain ⟨i, hi, xx, zz, r1, r2, r3⟩ := (ring_neg hz.2.1 I hk hm1 hm3 hf2).2
          obtain ⟨x', r4, r5⟩ := h1 (f2 i) (hf2 i (hk i)).1 zz r2
          rw [r1] at r4
          cases r4
          omega
      obtain ⟨i, hi1, hi2⟩ := hreach
      obtain ⟨m, hmi, hm, hmin⟩ := least (fun i => bk g.ah i goal = s) i hi2
      have hm0 : 1 ≤ m := by
        cases m with
        | zero => exact absurd hm hne
        | succ m => omega
      have hsome := step (m - 1) fun j hj => hmin j (by omega)
      have htms : ∀ j, j < m → g.tm (bk g.ah j goal) ≠ 0 := fun j hj => by
        obtain ⟨y, hy⟩ := hsome j (by omega)
        exact htm _ y hy (hmin j hj)
      have hdist : ∀ i j, i < j → j ≤ m → bk g.ah i goal ≠ bk g.ah j goal := fun i j hij hj e => by
        refine hmin (m - j + i) (by omega) ?_
        rw [bk_add, e, ← bk_add, show m - j + j = m by omega, hm]
      have hlen : ∀ j, j ≤ m → ∀ y, g.far (bk g.ah j goal) = some y → psum (fun i => (f i).l) j = x - y := fun j => by
        induction j with
        | zero =>
          intro _ y hy
          have hy' : g.far goal = some y := hy
          rw [hgx] at hy'
          cases hy'
          show (0 : Int) = x - x
          omega
        | succ j ih =>
          intro hj y hy
          obtain ⟨r0, r1, r2, r3, xx, zz, r4, r5, r6, _⟩ := hf j (htms j (by omega))
          rw [hy] at r5
          cases r5
          have := ih (by omega) xx r4
          obtain ⟨x', r7, r8⟩ := h1 (f j) r0 y (by rw [r2]; exact hy)
          rw [r1, r4] at r7
          cases r7
          show psum (fun i => (f i).l) j + (f j).l = _
          omega
      refine ⟨m, fun j => f (m - 1 - j), ⟨hm0, by show m ≤ 100; have := hz.1; omega, hm, fun j _ hj => hmin j hj, fun j hj => by
        show (g.ah (bk g.ah j goal)).isSome = true
        rw [(hf j (htms j hj)).2.2.2.1]
        rfl⟩, ⟨fun j hj => (hf _ (htms _ (by omega))).1, fun j hj => ?_, fun h => by omega, fun _ => ?_, fun _ => ?_, fun i j hi hj e => ?_, fun i hi e => ?_, ?_⟩, wayB_eq fun i hi => (hf i (htms i hi)).2.2.2.1⟩
      · show (f (m - 1 - j)).b = (f (m - 1 - (j + 1))).a
        rw [(hf _ (htms _ (by omega))).2.1, (hf _ (htms _ (by omega))).2.2.1, show m - 1 - (j + 1) + 1 = m - 1 - j by omega]
      · show (f (m - 1 - 0)).a = s
        rw [(hf _ (htms _ (by omega))).2.2.1, show m - 1 - 0 + 1 = m by omega, hm]
      · show (f (m - 1 - (m - 1))).b = goal
        rw [(hf _ (htms _ (by omega))).2.1, show m - 1 - (m - 1) = 0 by omega]
        rfl
      · have e' : (f (m - 1 - i)).a = (f (m - 1 - j)).a := e
        rw [(hf _ (htms _ (by omega))).2.2.1, (hf _ (htms _ (by omega))).2.2.1] at e'
        rcases Nat.lt_trichotomy i j with w | w | w
        · exact absurd e'.symm (hdist _ _ (by omega) (by omega))
        · exact w
        · exact absurd e' (hdist _ _ (by omega) (by omega))
      · have e' : (f (m - 1 - i)).a = goal := e
        rw [(hf _ (htms _ (by omega))).2.2.1] at e'
        exact hdist 0 (m - 1 - i + 1) (by omega) (by omega) e'.symm
      · rw [psum_rev (fun j => (f j).l) m, hlen m (Nat.le_refl _) 0 (by rw [hm]; exact q2)]
        omega
    · cases q : g.far v with
      | none => rfl
      | some x =>
        obtain ⟨e, he, hb, _⟩ := I.tm1 v (htm v x q hne)
        have := (hz.2.1 e he).2.1
        omega
end
end RN
end

section
set_option Elab.async false
set_option linter.all false
set_option maxRecDepth 100000
set_option maxHeartbeats 2000000
set_option autoImplicit false
/-! RN_FW: all lengths at once. -/
namespace RN
open PySem
abbrev Mat := Nat → Nat → Option Int
def fwLow (f : Mat) (i j : Nat) (l : Int) : Bool := match f i j with
  | none => true
  | some x => decide (l < x)
def fwPut (f : Mat) (i j : Nat) (l : Int) : Mat := if fwLow f i j l = true then up2 f i j l else f
def fw0 (n : Nat) : Mat := fun i j => if i = j ∧ i < n then some 0 else none
def fwL (f : Mat) (ls : List Lk) : Mat := ls.foldl (fun f e => fwPut f e.a e.b e.l) f
def fwStep (f : Mat) (mid one other : Nat) : Mat := match f one mid, f mid other with
  | some x, some y => fwPut f one other (x + y)
  | _, _ => f
def fwO (f : Mat) (mid one : Nat) : Nat → Mat
  | 0 => f
  | k + 1 => fwStep (fwO f mid one k) mid one k
def fwI (n : Nat) (f : Mat) (mid : Nat) : Nat → Mat
  | 0 => f
  | k + 1 => fwO (fwI n f mid k) mid k n
def fwM (n : Nat) (f : Mat) : Nat → Mat
  | 0 => f
  | k + 1 => fwI n (fwM n f k) k n
def fwAll (n : Nat) (ls : List Lk) : Mat := fwM n (fwL (fw0 n) ls) n
/-- f' is nowhere above f -/
def MLe (f f' : Mat) : Prop := ∀ i j x, f i j = some x → ∃ y, f' i j = some y ∧ y ≤ x
theorem MLe.refl (f : Mat) : MLe f f := fun i j x h => ⟨x, h, Int.le_refl _⟩
theorem MLe.trans {f g h : Mat} (a : MLe f g) (b : MLe g h) : MLe f h := fun i j x q => by
  obtain ⟨y, h1, h2⟩ := a i j x q
  obtain ⟨z, h3, h4⟩ := b i j y h1
  exact ⟨z, h3, by omega⟩
theorem put_le (f : Mat) (i j : Nat) (l : Int) : MLe f (fwPut f i j l) ∧ ∃ y, fwPut f i j l i j = some y ∧ y ≤ l := by
  unfold fwPut
  by_cases h : fwLow f i j l = true
  · rw [if_pos h]
    unfold fwLow at h
    refine ⟨fun a b x q => ?_, l, if_pos ⟨rfl, rfl⟩, Int.le_refl _⟩
    by_cases e : a = i ∧ b = j
    · obtain ⟨rfl, rfl⟩ := e
      rw [q] at h
      have h' : decide (l < x) = true := h
      rw [decide_eq_true_eq] at h'
      exact ⟨l, if_pos ⟨rfl, rfl⟩, by omega⟩
    · exact ⟨x, by unfold up2; rw [if_neg e]; exact q, Int.le_refl _⟩
  · rw [if_neg h]
    unfold fwLow at h
    refine ⟨MLe.refl f, ?_⟩
    cases q : f i j with
    | none => rw [q] at h; exact absurd rfl h
    | some x =>
      rw [q] at h
      have h' : ¬ decide (l < x) = true := h
      rw [decide_eq_true_eq] at h'
      exact ⟨x, rfl, by omega⟩
theorem step_le (f : Mat) (mid one other : Nat) : MLe f (fwStep f mid one other) ∧ ∀ x y, f one mid = some x → f mid other = some y → ∃ w, fwStep f mid one other one other = some w ∧ w ≤ x + y := by
  unfold fwStep
  cases h1 : f one mid with
  | none => exact ⟨MLe.refl f, fun x y h => nomatch h⟩
  | some x =>
    cases h2 : f mid other with
    | none => exact ⟨MLe.refl f, fun x y _ h => nomatch h⟩
    | some y =>
      obtain ⟨q1, q2⟩ := put_le f one other (x + y)
      exact ⟨q1, fun x' y' e1 e2 => by cases e1; cases e2; exact q2⟩
theorem fwO_le (f : Mat) (mid one : Nat) : ∀ k, MLe f (fwO f mid one k)
  | 0 => MLe.refl f
  | k + 1 => (fwO_le f mid one k).trans (step_le _ mid one k).1
theorem fwI_le (n : Nat) (f : Mat) (mid : Nat) : ∀ k, MLe f (fwI n f mid k)
  | 0 => MLe.refl f
  | k + 1 => (fwI_le n f mid k).trans (fwO_le _ mid k n)
theorem fwM_le (n : Nat) (f : Mat) : ∀ k, MLe f (fwM n f k)
  | 0 => MLe.refl f
  | k + 1 => (fwM_le n f k).trans (fwI_le n _ k n)
theorem fwL_le (f : Mat) : ∀ ls, MLe f (fwL f ls) ∧ ∀ e ∈ ls, ∃ y, fwL f ls e.a e.b = some y ∧ y ≤ e.l
  | [] => ⟨MLe.refl f, fun e h => absurd h List.not_mem_nil⟩
  | e :: ls => by
    obtain ⟨q1, y, q2, q3⟩ := put_le f e.a e.b e.l
    obtain ⟨r1, r2⟩ := fwL_le (fwPut f e.a e.b e.l) ls
    refine ⟨q1.trans r1, fun e' he => ?_⟩
    rcases List.mem_cons.mp he with w | w
    · rw [w]
      obtain ⟨z, s1, s2⟩ := r1 _ _ _ q2
      exact ⟨z, s1, by omega⟩
    · exact r2 e' w
/-! ### ways by middles below k -/
def Via (ls : List Lk) : Nat → Nat → Nat → Int → Prop
  | 0, i, j, x => ∃ e ∈ ls, e.a = i ∧ e.b = j ∧ e.l = x
  | k + 1, i, j, x => Via ls k i j x ∨ ∃ x1 x2, Via ls k i k x1 ∧ Via ls k k j x2 ∧ x = x1 + x2
def UpTo (ls : List Lk) (n k : Nat) (f : Mat) : Prop := ∀ i j x, i < n → j < n → Via ls k i j x → ∃ y, f i j = some y ∧ y ≤ x
theorem upto_le {ls : List Lk} {n k : Nat} {f g : Mat} (h : UpTo ls n k f) (l : MLe f g) : UpTo ls n k g := fun i j x hi hj v => by
  obtain ⟨y, h1, h2⟩ := h i j x hi hj v
  obtain ⟨z, h3, h4⟩ := l i j y h1
  exact ⟨z, h3, by omega⟩
theorem upO {ls : List Lk} {n mid one : Nat} (hm : mid < n) (ho : one < n) {f : Mat} (h : UpTo ls n mid f) : ∀ k, k ≤ n → ∀ j, j < k → ∀ x1 x2, Via ls mid one mid x1 → Via ls mid mid j x2 → ∃ y, fwO f mid one k one j = some y ∧ y ≤ x1 + x2
  | 0, _, j, hj => absurd hj (Nat.not_lt_zero _)
  | k + 1, hk, j, hj => fun x1 x2 v1 v2 => by
    have u : UpTo ls n mid (fwO f mid one k) := upto_le h (fwO_le f mid one k)
    obtain ⟨s1, s2⟩ := step_le (fwO f mid one k) mid one k
    by_cases e : j = k
    · subst e
      obtain ⟨y1, a1, a2⟩ := u _ _ _ ho hm v1
      obtain ⟨y2, b1, b2⟩ := u _ _ _ hm (by omega) v2
      obtain ⟨w, c1, c2⟩ := s2 y1 y2 a1 b1
      exact ⟨w, c1, by omega⟩
    · obtain ⟨y, a1, a2⟩ := upO hm ho h k (by omega) j (by omega) x1 x2 v1 v2
      obtain ⟨w, c1, c2⟩ := s1 _ _ _ a1
      exact ⟨w, c1, by omega⟩
theorem upI {ls : List Lk} {n mid : Nat} (hm : mid < n) {f : Mat} (h : UpTo ls n mid f) : ∀ k, k ≤ n → ∀ i, i < k → ∀ j, j < n → ∀ x1 x2, Via ls mid i mid x1 → Via ls mid mid j x2 → ∃ y, fwI n f mid k i j = some y ∧ y ≤ x1 + x2
  | 0, _, i, hi => absurd hi (Nat.not_lt_zero _)
  | k + 1, hk, i, hi => fun j hj x1 x2 v1 v2 => by
    have u : UpTo ls n mid (fwI n f mid k) := upto_le h (fwI_le n f mid k)
    by_cases e : i = k
    · subst e
      exact upO hm (by omega) u n (Nat.le_refl _) j hj x1 x2 v1 v2
    · obtain ⟨y, a1, a2⟩ := upI hm h k (by omega) i (by omega) j hj x1 x2 v1 v2
      obtain ⟨w, c1, c2⟩ := fwO_le (fwI n f mid k) mid k n _ _ _ a1
      exact ⟨w, c1, by omega⟩
theorem upM {ls : List Lk} {n : Nat} {f : Mat} (h : UpTo ls n 0 f) : ∀ k, k ≤ n → UpTo ls n k (fwM n f k)
  | 0, _ => h
  | k + 1, hk => fun i j x hi hj v => by
    have u := upM h k (by omega)
    rcases v with v | ⟨x1, x2, v1, v2, rfl⟩
    · exact upto_le u (fwI_le n _ k n) i j x hi hj v
    · exact upI (by omega) u n (Nat.le_refl _) i hi j hj x1 x2 v1 v2
theorem fw_up (n : Nat) (ls : List Lk) : UpTo ls n n (fwAll n ls) := upM (fun i j x _ _ v => by
  obtain ⟨e, he, rfl, rfl, rfl⟩ := v
  exact (fwL_le (fw0 n) ls).2 e he) n (Nat.le_refl _)
theorem fw_diag (n : Nat) (ls : List Lk) {i : Nat} (hi : i < n) : ∃ y, fwAll n ls i i = some y ∧ y ≤ 0 :=
  ((fwL_le (fw0 n) ls).1.trans (fwM_le n _ n)) i i 0 (if_pos ⟨rfl, hi⟩)
/-- walked knots and lengths -/
theorem via_seg {ls : List Lk} {v : Nat → Nat} {len : Nat → Int} {m : Nat} (hl : ∀ i, i < m → ∃ e ∈ ls, e.a = v i ∧ e.b = v (i + 1) ∧ e.l = len i) : ∀ k a b, a < b → b ≤ m → (∀ i, a < i → i < b → v i < k) → (∀ i j, a < i → i < j → j < b → v i ≠ v j) → Via ls k (v a) (v b) (psum len b - psum len a)
  | 0, a, b, hab, hb, hk, hd => by
    have : b = a + 1 := by
      by_cases e : b = a + 1
      · exact e
      · exact absurd (hk (a + 1) (by omega) (by omega)) (Nat.not_lt_zero _)
    subst this
    obtain ⟨e, he, h1, h2, h3⟩ := hl a (by omega)
    refine ⟨e, he, h1, h2, ?_⟩
    show e.l = psum len a + len a - psum len a
    omega
  | k + 1, a, b, hab, hb, hk, hd => by
    by_cases q : ∃ i, a < i ∧ i < b ∧ v i = k
    · obtain ⟨i, h1, h2, h3⟩ := q
      have l := via_seg hl k a i h1 (by omega) (fun j hj1 hj2 => by
        have := hk j hj1 (by omega)
        have := hd j i hj1 hj2 h2
        omega) fun p q hp hpq hq => hd p q hp hpq (by omega)
      have r := via_seg hl k i b h2 hb (fun j hj1 hj2 => by
        have := hk j (by omega) hj2
        have := hd i j h1 hj1 hj2
        omega) fun p q hp hpq hq => hd p q (by omega) hpq hq
      rw [h3] at l r
      exact .inr ⟨_, _, l, r, by omega⟩
    · refine .inl (via_seg hl k a b hab hb (fun i h1 h2 => ?_) hd)
      have := hk i h1 h2
      have : v i ≠ k := fun e => q ⟨i, h1, h2, e⟩
      omega
theorem chain_via {ls : List Lk} {n : Nat} (hls : ∀ e ∈ ls, LkOk n e) {F : Nat → Lk} {m : Nat} (hm : 1 ≤ m) (mem : ∀ j, j < m → F j ∈ ls) (link : ∀ j, j + 1 < m → (F j).b = (F (j + 1)).a) (inj : ∀ i j, i < m → j < m → (F i).a = (F j).a → i = j) :
    ∃ y, fwAll n ls (F 0).a (F (m - 1)).b = some y ∧ y ≤ psum (fun j => (F j).l) m := by
  have h := via_seg (ls := ls) (v := fun i => if i < m then (F i).a else (F (m - 1)).b) (len := fun j => (F j).l) (m := m) (fun i hi => ⟨F i, mem i hi, (if_pos hi).symm, by
    show (F i).b = if i + 1 < m then (F (i + 1)).a else (F (m - 1)).b
    by_cases e : i + 1 < m
    · rw [if_pos e]
      exact link i e
    · rw [if_neg e, show m - 1 = i by omega], rfl⟩) n 0 m (by omega) (Nat.le_refl _) (fun i _ hi => by
    show (if i < m then (F i).a else (F (m - 1)).b) < n
    rw [if_pos hi]
    exact (hls _ (mem i hi)).1) fun i j _ hij hj e => by
      have e' : (if i < m then (F i).a else (F (m - 1)).b) = (if j < m then (F j).a else (F (m - 1)).b) := e
      rw [if_pos (by omega), if_pos hj] at e'
      have := inj i j (by omega) hj e'
      omega
  have h' : Via ls n (if 0 < m then (F 0).a else (F (m - 1)).b) (if m < m then (F m).a else (F (m - 1)).b) (psum (fun j => (F j).l) m - 0) := h
  rw [if_pos (by omega), if_neg (Nat.lt_irrefl _), Int.sub_zero] at h'
  exact fw_up n ls _ _ _ (hls _ (mem 0 (by omega))).1 (hls _ (mem (m - 1) (by omega))).2.1 h'
/-! ### no entry is too small -/
def Sound (ls : List Lk) (f : Mat) : Prop := ∀ φ : Far, Feas ls φ → ∀ i j x, f i j = some x → ∀ z, φ i = some z → ∃ y, φ j = some y ∧ y ≤ z + x
theorem sound_put {ls : List Lk} {f : Mat} (h : Sound ls f) {i j : Nat} {l : Int} (hl : ∀ φ : Far, Feas ls φ → ∀ z, φ i = some z → ∃ y, φ j = some y ∧ y ≤ z + l) : Sound ls (fwPut f i j l) := fun φ hφ a b x q z hz => by
  unfold fwPut at q
  split at q
  · unfold up2 at q
    split at q
    · rename_i e
      cases q
      rw [e.2]
      rw [e.1] at hz
      exact hl φ hφ z hz
    · exact h φ hφ a b x q z hz
  · exact h φ hφ a b x q z hz
theorem sound_step {ls : List Lk} {f : Mat} (h : Sound ls f) (mid one other : Nat) : Sound ls (fwStep f mid one other) := by
  unfold fwStep
  cases h1 : f one mid with
  | none => exact h
  | some x =>
    cases h2 : f mid other with
    | none => exact h
    | some y =>
      refine sound_put h fun φ hφ z hz => ?_
      obtain ⟨w, q1, q2⟩ := h φ hφ _ _ _ h1 z hz
      obtain ⟨u, q3, q4⟩ := h φ hφ _ _ _ h2 w q1
      exact ⟨u, q3, by omega⟩
theorem sound_O {ls : List Lk} {f : Mat} (h : Sound ls f) (mid one : Nat) : ∀ k, Sound ls (fwO f mid one k)
  | 0 => h
  | k + 1 => sound_step (sound_O h mid one k) mid one k
theorem sound_I {ls : List Lk} {n : Nat} {f : Mat} (h : Sound ls f) (mid : Nat) : ∀ k, Sound ls (fwI n f mid k)
  | 0 => h
  | k + 1 => sound_O (sound_I h mid k) mid k n
theorem sound_M {ls : List Lk} {n : Nat} {f : Mat} (h : Sound ls f) : ∀ k, Sound ls (fwM n f k)
  | 0 => h
  | k + 1 => sound_I (sound_M h k) k n
theorem sound_L {ls0 : List Lk} : ∀ (ls : List Lk) {f : Mat}, (∀ e ∈ ls, e ∈ ls0) → Sound ls0 f → Sound ls0 (fwL f ls)
  | [], _, _, h => h
  | e :: ls, f, hs, h => sound_L ls (f := fwPut f e.a e.b e.l) (fun e' he => hs e' (List.mem_cons_of_mem _ he)) (sound_put h fun φ hφ z hz => hφ e (hs e List.mem_cons_self) z hz)
theorem fw_sound (n : Nat) (ls : List Lk) : Sound ls (fwAll n ls) := sound_M (sound_L ls (fun _ h => h) fun φ _ i j x q z hz => by
  unfold fw0 at q
  split at q
  · rename_i e
    cases q
    exact ⟨z, by rw [← e.1]; exact hz, by omega⟩
  · cases q) n
/-! ### the two ways of reckoning agree -/
def isLet (n : Nat) (ls : List Lk) : Bool := (List.range n).all fun i => match fwAll n ls i i with
  | some x => decide (0 ≤ x)
  | none => true
theorem ring_notLet {n : Nat} {ls : List Lk} (hls : ∀ e ∈ ls, LkOk n e) {F : Nat → Lk} {m : Nat} (r : Ring ls F m) : isLet n ls = false := by
  obtain ⟨y, h1, h2⟩ := chain_via hls r.m1 r.mem r.link r.inj
  rw [r.close] at h1
  have hneg := r.neg
  have hi : (F 0).a < n := (hls _ (r.mem 0 (by have := r.m1; omega))).1
  cases q : isLet n ls with
  | false => rfl
  | true =>
    unfold isLet at q
    have := List.all_eq_true.mp q _ (List.mem_range.mpr hi)
    rw [h1] at this
    have h' : decide (0 ≤ y) = true := this
    rw [decide_eq_true_eq] at h'
    omega
theorem pot_let {n : Nat} {ls : List Lk} {π : Nat → Int} (p : Pot ls π) : isLet n ls = true := by
  unfold isLet
  refine List.all_eq_true.mpr fun i _ => ?_
  cases q : fwAll n ls i i with
  | none => rfl
  | some x =>
    obtain ⟨y, h1, h2⟩ := fw_sound n ls (fun v => some (π v)) (fun e he z hz => ⟨π e.b, rfl, by cases hz; exact p e he⟩) i i x q (π i) rfl
    cases h1
    exact decide_eq_true (by omega)
theorem apart_fw {n s : Nat} {ls : List Lk} (hls : ∀ e ∈ ls, LkOk n e) {far : Far} {ah : Ahd} (a : Apart ls n s far ah) {g : Nat} (hs : s < n) {π : Nat → Int} (p : Pot ls π) : fwAll n ls s g = far g := by
  cases q : fwAll n ls s g with
  | none =>
    cases r : far g with
    | none => rfl
    | some x =>
      exfalso
      by_cases e : g = s
      · subst e
        obtain ⟨y, h, _⟩ := fw_diag n ls hs
        rw [q] at h
        cases h
      · obtain ⟨m, F, b, w, _⟩ := a.way g x 0 r e
        obtain ⟨y, h, _⟩ := chain_via hls b.m1 w.mem w.link w.inj
        rw [w.fst b.m1, w.lst b.m1, q] at h
        cases h
  | some x =>
    obtain ⟨y, h1, h2⟩ := fw_sound n ls far a.feas s g x q 0 a.st0
    rw [h1]
    congr 1
    by_cases e : g = s
    · subst e
      obtain ⟨d, h3, h4⟩ := fw_diag n ls hs
      rw [q] at h3
      cases h3
      rw [a.st0] at h1
      cases h1
      omega
    · obtain ⟨m, F, b, w, _⟩ := a.way g y 0 h1 e
      obtain ⟨d, h3, h4⟩ := chain_via hls b.m1 w.mem w.link w.inj
      rw [w.fst b.m1, w.lst b.m1, q] at h3
      cases h3
      have h5 : x ≤ psum (fun j => (F j).l) m := h4
      have := w.len
      omega
/-! ### the search from zeros -/
def zeros : Far := fun _ => some 0
theorem zeros_some {z : Srch} (hz : z.ok) (h : z.far0 = zeros) (t : Nat) (v : Nat) : ∃ x, (z.at_ t).far v = some x := by
  by_cases h0 : z.ls = []
  · obtain ⟨_, q1, _⟩ := bf_fd0 (far0 := z.far0) h0 t
    exact ⟨0, by
      show (bfAt z.ls z.far0 t).far v = _
      rw [q1, h]
      rfl⟩
  · obtain ⟨e1, _⟩ := bf_run (far0 := z.far0) h0 t
    have I := runG_inv (n := z.n) h0 hz.2.1 z.far0 (t * z.ls.length)
    show ∃ x, (bfAt z.ls z.far0 t).far v = some x
    rw [e1]
    by_cases q : (runG z.ls z.far0 (t * z.ls.length)).tm v = 0
    · exact ⟨0, by rw [(I.tm0 v q).1, h]; rfl⟩
    · obtain ⟨_, _, _, _, x, _, h1, _⟩ := I.tm1 v q
      exact ⟨x, h1⟩
theorem zeros_pot {z : Srch} (hz : z.ok) (h : z.far0 = zeros) {t : Nat} (ht : (z.at_ (t + 1)).fd = none) : Pot z.ls fun v => ((z.at_ (t + 1)).far v).getD 0 := by
  obtain ⟨h1, h2, _⟩ := bf_feas (ls := z.ls) (far0 := z.far0) ht
  have h2' : (z.at_ (t + 1)).far = (bfAt z.ls z.far0 t).far := h2
  rw [h2']
  intro e he
  obtain ⟨xa, ha⟩ := zeros_some hz h t e.a
  obtain ⟨x, q1, q2⟩ := h1 e he xa ha
  show ((bfAt z.ls z.far0 t).far e.b).getD 0 ≤ ((bfAt z.ls z.far0 t).far e.a).getD 0 + e.l
  rw [q1, show (bfAt z.ls z.far0 t).far e.a = some xa from ha]
  exact q2
end RN
end

section
set_option Elab.async false
set_option linter.all false
set_option maxRecDepth 100000
set_option maxHeartbeats 4000000
set_option autoImplicit false
/-! RN_W7: heights or a ring; the farthest. -/
namespace RN
open PySem PySem.Spec L2
def Lks (n : NetD) (rs : List Rg) : List Lk := linksOf n.ws rs
def NR (z : NetD × List Rg) : Prop := z.1.ok ∧ z.2.length = z.1.ws.length
theorem lks_ok {n : NetD} {rs : List Rg} (h : n.ok) : ∀ e ∈ Lks n rs, LkOk n.k e := links_ok h
theorem srch_ok {n : NetD} {rs : List Rg} (h : n.ok) (far0 : Far) : Srch.ok ⟨n.k, Lks n rs, far0⟩ := ⟨h.2.1, lks_ok h, by
  have := lkUp_len n.ws rs n.ws.length
  have := h.2.2.1
  show (lkUp n.ws rs n.ws.length).length ≤ 48
  omega⟩
def holPost (z : NetD × List Rg) (d : D) : Prop := (∃ π, Pot (Lks z.1 z.2) π ∧ ∃ x, d = .tup [.str "heights", x]) ∨ ∃ m F, Ring (Lks z.1 z.2) F m ∧ d = .tup [.str "loop", stepsD (stepsOf F m)]
abbrev spHol (CN : Addr) : Sp := spN (α := NetD × List Rg) CN (fun z => [z.1.d, rsD z.2]) NR holPost
abbrev spBegun (CN : Addr) : Sp := spG (α := NetD × Nat) CN (fun z => [z.1.d, .int (z.2 : Int)]) (fun z => z.1.ok) fun z => .lst (farL z.1.k (from1 z.2))
structure FarA where
  n : NetD
  rs : List Rg
  s : Nat
  g : Nat
structure FarA.ok (z : FarA) : Prop where
  nr : NR (z.n, z.rs)
  s_ : z.s < z.n.k
  g_ : z.g < z.n.k
  pot : ∃ π, Pot (Lks z.n z.rs) π
def lotOf (k : Nat) (far : Far) : List Nat := (List.range k).filter fun v => (far v).isNone
def lotD (l : List Nat) : D := .tup (l.map fun (v : Nat) => D.int (v : Int))
def FarA.post (z : FarA) (d : D) : Prop := ∃ far ah, Apart (Lks z.n z.rs) z.n.k z.s far ah ∧ ((far z.g = none ∧ d = .tup [.str "endless", lotD (lotOf z.n.k far)]) ∨
  ∃ x st, far z.g = some x ∧ d = .tup [.str "most", .int x, stepsD st] ∧ (z.g = z.s → st = []) ∧ (z.g ≠ z.s → ∃ m F, 1 ≤ m ∧ Way (Lks z.n z.rs) F m z.s z.g x ∧ st = stepsOf F m))
def FarA.enc (z : FarA) : List D := [z.n.d, rsD z.rs, .int (z.s : Int), .int (z.g : Int)]
abbrev spFarthest (CN : Addr) : Sp := spN (α := FarA) CN FarA.enc FarA.ok FarA.post
section
variable {W : Wd} {ρ : List Sl} {μ : List Cell}
theorem od_rep {ds : List D} {k : Nat} (hk : ds.length * k ≤ 1000) (hk2 : k ≤ 1000) : OpD W rRep (.lst ds) (.int (k : Int)) (Is (.lst (List.replicate k ds).flatten)) := fun H μ s vx vy r1 r2 Q q => by
  obtain ⟨a, xs, rfl, n, e, rl⟩ := r1
  have hr : ∀ k, RpL W.CN W.U H (List.replicate k ds).flatten (List.replicate k xs).flatten := fun k => by
    induction k with
    | zero => rfl
    | succ k ih =>
      rw [List.replicate_succ, List.replicate_succ, List.flatten_cons, List.flatten_cons]
      exact rl.append ih
  refine ⟨a, (k : Int), xs, rfl, r2, e, by omega, by omega, ?_, fun p hp => ?_⟩
  · rw [rl.length, Int.toNat_natCast]
    exact Nat.le_of_lt (small1000 hk)
  · rw [Int.toNat_natCast]
    exact q _ _ (.lst (List.replicate k ds).flatten) (same_new hp) ⟨p, _, rfl, Stt.notU s hp, upd_same, (hr k).kept (Kept.of (same_new hp))⟩ rfl
end
theorem rep_zeros (k : Nat) : (List.replicate k [D.int 0]).flatten = farL k zeros := by
  induction k with
  | zero => rfl
  | succ k ih =>
    rw [List.replicate_succ', List.flatten_append, ih]
    unfold farL
    rw [List.range_succ, List.map_append]
    rfl
section
variable {P : Program} {w : World} {K : PySem.W.Frag} {mg : Str → Option Value} {base : Heap} {CN CP : Addr} {f : Addr} {fd : FuncData}
theorem ok_heights_or_loop_in (B : Bf mg) (NF : NetF K CN CP) (C_knots : Prp P w K mg base CN 1 "knots" (spKnots CN)) (C_links_of : Cal P w K mg base CX0 3 "links_of" ["net", "ranges"] (spLinks CN)) (C_shortest : Cal P w K mg base CX0 2 "shortest" ["links", "far"] (spShortest CN)) (C_steps_back : Cal P w K mg base CX0 1 "steps_back" ["ahead", "goal", "stop"] (spBack CN))
    (g : mg "heights_or_loop_in" = some (.ref f)) (F : FnP K "heights_or_loop_in" s_heights_or_loop_in f fd) : Cal P w K mg base CX0 4 "heights_or_loop_in" ["net", "ranges"] (spHol CN) := by
  refine cal_mk g F (fun _ _ _ _ _ _ us hl => match us, hl with | [_, _], _ => rfl) (fn_N _ _ _ F sc_heights_or_loop_in (fun _ => rfl) fun cdv A outer s H E hr z hz => ?_)
  obtain ⟨n, rs⟩ := z
  obtain ⟨hn, hlen⟩ := id hz
  replace hn : n.ok := hn
  have hso := srch_ok (rs := rs) hn zeros
  refine ⟨_, (pss_cons (ps_asg (pe_own C_shortest (hr.mono (by decide)) rfl pass0 (pa_cons (pe_own C_links_of (hr.mono (by decide)) rfl pass0 (pa_cons (pv 0) (pa_cons (pv 1) pa_nil))) (pa_cons (pe_op op_rep (pe_lst (pa_cons pe_int pa_nil)) (pe_net_prop NF C_knots (hr.mono (by decide)) (pv 0))) pa_nil))) (pg_tup rfl (pgs_cons (pg_name (i := 2) sc_heights_or_loop_in.nd rfl (by first | exact Or.inl rfl | exact Or.inr rfl)) (pgs_cons (pg_name (i := 3) sc_heights_or_loop_in.nd rfl (by first | exact Or.inl rfl | exact Or.inr rfl)) pgs_nil)))) (pss_cons (ps_if (pt_cmp (pc_isN (pv 2))) (pss_cons (ps_asg (pv 3) (pg_tup rfl (pgs_cons (pg_name (i := 4) sc_heights_or_loop_in.nd rfl (by first | exact Or.inl rfl | exact Or.inr rfl)) (pgs_cons (pg_name (i := 5) sc_heights_or_loop_in.nd rfl (by first | exact Or.inl rfl | exact Or.inr rfl)) pgs_nil)))) (pss_one (ps_ret (pe_tup (pa_cons (pe_gstr B.c_LOOP) (pa_cons (pe_own C_steps_back (hr.mono (by decide)) rfl pass0 (pa_cons (pv 5) (pa_cons (pv 4) (pa_cons (pv 4) pa_nil)))) pa_nil)))))) pss_nil) (pss_one (ps_ret (pe_tup (pa_cons (pe_gstr B.c_HEIGHTS) (pa_cons (pe_tuple B.b_tuple (pv 2)) pa_nil))))))), fun U => ?_⟩
  refine sv_seq (N1 := fun ρ' μ' => μ' = [] ∧ ∃ a b, ρ' = [.d n.d, .d (rsD rs), .d a, .d b, .no, .no] ∧ Srch.post ⟨n.k, Lks n rs, zeros⟩ (.tup [a, b]))
    (sv_asg (P := Srch.post ⟨n.k, Lks n rs, zeros⟩) (ev_callN (Srch.mk n.k (Lks n rs) zeros) (ea_cons (ev_callG (n, rs) (ea_cons (ev_var rfl) (ea_cons (ev_var rfl) ea_nil)) hz) (ea_cons (EvP.to (ev_op1 (ev_lst1 (ea_cons ev_int ea_nil) (show 1 ≤ 1000 by decide)) (ev_propG (k := (n.k : Int)) (wd := wsD n.ws) n (ev_var rfl) rfl trivial) (od_rep (k := n.k) (by have := hn.2.1; show 1 * n.k ≤ 1000; omega) (by have := hn.2.1; omega))) (congrArg D.lst (rep_zeros n.k))) ea_nil)) hso fun d h => h) fun d hd => ?_) fun ρ' μ' h => ?_
  · have : ∃ a b, d = .tup [a, b] := by
      rcases hd with ⟨t, c, _, _, e⟩ | ⟨v, c, _, e⟩
      · exact ⟨_, _, e⟩
      · exact ⟨_, _, e⟩
    obtain ⟨a, b, rfl⟩ := this
    refine (gv_tup rfl (gs_cons (gv_name (gs_cons (gv_name (gs_nil ?_))))))
    exact ⟨rfl, a, b, rfl, hd⟩
  · obtain ⟨rfl, a, b, rfl, hd⟩ := h
    rcases hd with ⟨t, c, ht, hfd, e⟩ | ⟨v, c, hv, e⟩
    · cases e
      refine sv_guard (b := false) (EvB.to (eb_B (ev_isN (x := .lst (farL n.k ((Srch.mk n.k (Lks n rs) zeros).at_ (t + 1)).far)) (ev_var rfl))) rfl) (fun h => nomatch h) fun _ => ?_
      exact sv_ret1 (ev_tup1 (ea_cons ev_str (ea_cons (ev_cb1 (ev_var rfl) cb_tup) ea_nil)) (show 2 ≤ 1000 by decide)) (.inl ⟨_, zeros_pot hso rfl hfd, _, rfl⟩)
    · cases e
      obtain ⟨m, F', hb, hr', hw⟩ := loop_ring hso hv c
      refine sv_guard (b := true) (EvB.to (eb_B (ev_isN (x := .non) (ev_var rfl))) rfl) (fun _ => ?_) fun h => nomatch h
      refine sv_seq (N1 := fun ρ' μ' => μ' = [] ∧ ∃ x y, ρ' = [.d n.d, .d (rsD rs), x, y, .d (.int (bk ((Srch.mk n.k (Lks n rs) zeros).at_ (n.k + 1)).ah n.k v : Nat)), .d (.ah c ((Srch.mk n.k (Lks n rs) zeros).at_ (n.k + 1)).ah)]) (sv_asg (P := Is _) (ev_var rfl) fun d hd => ?_) fun ρ' μ' h => ?_
      · rw [show d = _ from hd]
        refine (gv_tup rfl (gs_cons (gv_name (gs_cons (gv_name (gs_nil ?_))))))
        exact ⟨rfl, _, _, rfl⟩
      · obtain ⟨rfl, x, y, rfl⟩ := h
        refine sv_ret1 (ev_tup1 (ea_cons ev_str (ea_cons (ev_callG (Bck.mk c ((Srch.mk n.k (Lks n rs) zeros).at_ (n.k + 1)).ah (bk ((Srch.mk n.k (Lks n rs) zeros).at_ (n.k + 1)).ah n.k v) (bk ((Srch.mk n.k (Lks n rs) zeros).at_ (n.k + 1)).ah n.k v) m) (ea_cons (ev_var rfl) (ea_cons (ev_var rfl) (ea_cons (ev_var rfl) ea_nil))) hb) ea_nil)) (show 2 ≤ 1000 by decide)) (.inr ⟨m, F', hr', ?_⟩)
        show D.tup [.str "loop", stepsD (wayB _ _ m)] = _
        rw [show wayB ((Srch.mk n.k (Lks n rs) zeros).at_ (n.k + 1)).ah (bk ((Srch.mk n.k (Lks n rs) zeros).at_ (n.k + 1)).ah n.k v) m = stepsOf F' m from hw]
def bgF (knot : Nat) : D → D
  | .int i => if i = (knot : Int) then .int 0 else .non
  | _ => .non
theorem bg_map (k knot : Nat) : (upto k).map (bgF knot) = farL k (from1 knot) := by
  unfold upto farL
  rw [List.map_map]
  refine List.map_congr_left fun i _ => ?_
  show (if Int.ofNat i = (knot : Int) then D.int 0 else D.non) = oD (if i = knot then some 0 else none)
  by_cases e : i = knot
  · rw [if_pos e, if_pos (by rw [e]; rfl)]
    rfl
  · rw [if_neg e, if_neg (show ¬ (Int.ofNat i = (knot : Int)) from fun h => e (Int.ofNat.inj h))]
    rfl
theorem ok_begun_at (B : Bf mg) (NF : NetF K CN CP) (C_knots : Prp P w K mg base CN 1 "knots" (spKnots CN)) (g : mg "begun_at" = some (.ref f)) (F : FnP K "begun_at" s_begun_at f fd) : Cal P w K mg base CX0 3 "begun_at" ["net", "knot"] (spBegun CN) := by
  refine cal_mk g F (fun _ _ _ _ _ _ us hl => match us, hl with | [_, _], _ => rfl) (fn_N _ _ _ F sc_begun_at (fun _ => rfl) fun cdv A outer s H E hr z hz => ?_)
  obtain ⟨n, knot⟩ := z
  replace hz : n.ok := hz
  refine ⟨_, (pss_one (ps_ret (pe_lc (own := [("one", 2)]) (g := (gName 2)) rfl sc_begun_at.nd (pi_range1 rfl B.b_range (pa_cons (pe_net_prop NF C_knots (hr.mono (by decide)) (pv 0)) pa_nil)) (blkOk_by (own := [("one", 2)]) (N := n_begun_at) (sc := defScope s_begun_at) (by decide +kernel)) (fun _ _ _ _ _ => (pg_name (i := 2) sc_begun_at.nd rfl (by first | exact Or.inl rfl | exact Or.inr rfl))) (fun _ _ _ _ _ => pts_nil) (fun _ _ _ _ _ => (pe_ifExp (pt_cmpR op_eq (pv 2) (pv 1) (nomark _)) pe_int pe_non))))), fun U => ?_⟩
  refine sv_ret1 (EvP.to (ev_map (f := bgF knot) (iv_rng (ea_cons (ev_propG (k := (n.k : Int)) (wd := wsD n.ws) n (ev_var rfl) rfl trivial) ea_nil) (by have := hz.2.1; omega)) (wp_name (by decide)) (by rw [upto_len]; have := hz.2.1; omega) fun i d p acc hd => ?_) (congrArg D.lst (by rw [Int.toNat_natCast]; exact bg_map n.k knot))) rfl
  rw [Int.toNat_natCast] at hd
  have hi : i < n.k := by
    have := (List.getElem?_eq_some_iff.mp hd).1
    rw [upto_len] at this
    exact this
  rw [upto_get hi] at hd
  cases hd
  refine gv_name ⟨rfl, ev_if (b := decide ((i : Int) = (knot : Int))) (eb_T (ev_eqI (ev_var rfl) (ev_var rfl))) (fun h => ?_) fun h => ?_⟩
  · rw [decide_eq_true_eq] at h
    refine EvP.to ev_int ?_
    show D.int 0 = if (i : Int) = (knot : Int) then D.int 0 else D.non
    rw [if_pos h]
  · rw [decide_eq_false_iff_not] at h
    refine EvP.to ev_non ?_
    show D.non = if (i : Int) = (knot : Int) then D.int 0 else D.non
    rw [if_neg h]
theorem lot_filter (k : Nat) (far : Far) (b : D → Bool) (hb : ∀ i, i < k → b (.int (i : Int)) = (far i).isNone) : ((upto k).filter b).map (fun d => d) = (lotOf k far).map fun (v : Nat) => D.int (v : Int) := by
  rw [List.map_id']
  unfold upto lotOf
  rw [List.filter_map]
  show List.map (fun (i : Nat) => D.int (i : Int)) _ = _
  congr 1
  refine List.filter_congr fun i hi => ?_
  exact hb i (List.mem_range.mp hi)
def ltF (far : Far) : D → Bool
  | .int i => (far i.toNat).isNone
  | _ => false
theorem ok_farthest_in (B : Bf mg) (NF : NetF K CN CP) (C_knots : Prp P w K mg base CN 1 "knots" (spKnots CN)) (C_links_of : Cal P w K mg base CX0 3 "links_of" ["net", "ranges"] (spLinks CN)) (C_begun_at : Cal P w K mg base CX0 3 "begun_at" ["net", "knot"] (spBegun CN)) (C_shortest : Cal P w K mg base CX0 2 "shortest" ["links", "far"] (spShortest CN)) (C_steps_back : Cal P w K mg base CX0 1 "steps_back" ["ahead", "goal", "stop"] (spBack CN))
    (g : mg "farthest_in" = some (.ref f)) (F : FnP K "farthest_in" s_farthest_in f fd) : Cal P w K mg base CX0 4 "farthest_in" ["net", "ranges", "start", "goal"] (spFarthest CN) := by
  refine cal_mk g F (fun _ _ _ _ _ _ us hl => match us, hl with | [_, _, _, _], _ => rfl) (fn_N _ _ _ F sc_farthest_in (fun _ => rfl) fun cdv A outer s H E hr z hz => ?_)
  obtain ⟨n, rs, st, gl⟩ := z
  obtain ⟨hnr, hs, hg, π, hπ⟩ := hz
  replace hs : st < n.k := hs
  replace hg : gl < n.k := hg
  have hn : n.ok := hnr.1
  have hso := srch_ok (rs := rs) hn (from1 st)
  refine ⟨_, (pss_cons (ps_asg (pe_own C_shortest (hr.mono (by decide)) rfl pass0 (pa_cons (pe_own C_links_of (hr.mono (by decide)) rfl pass0 (pa_cons (pv 0) (pa_cons (pv 1) pa_nil))) (pa_cons (pe_own C_begun_at (hr.mono (by decide)) rfl pass0 (pa_cons (pv 0) (pa_cons (pv 2) pa_nil))) pa_nil))) (pg_tup rfl (pgs_cons (pg_name (i := 4) sc_farthest_in.nd rfl (by first | exact Or.inl rfl | exact Or.inr rfl)) (pgs_cons (pg_name (i := 5) sc_farthest_in.nd rfl (by first | exact Or.inl rfl | exact Or.inr rfl)) pgs_nil)))) (pss_cons (ps_if (pt_cmp (pc_isN (pe_ix ix_list (pv 4) (pv 3) (fun _ _ => rfl)))) (pss_one (ps_ret (pe_tup (pa_cons (pe_gstr B.c_ENDLESS) (pa_cons (pe_tuple B.b_tuple (pe_lc (own := [("knot", 6)]) (g := (gName 6)) rfl sc_farthest_in.nd (pi_range1 rfl B.b_range (pa_cons (pe_net_prop NF C_knots (hr.mono (by decide)) (pv 0)) pa_nil)) (blkOk_by (own := [("knot", 6)]) (N := n_farthest_in) (sc := defScope s_farthest_in) (by decide +kernel)) (fun _ _ _ _ _ => (pg_name (i := 6) sc_farthest_in.nd rfl (by first | exact Or.inl rfl | exact Or.inr rfl))) (fun _ _ _ _ _ => (pts_one (pt_cmp (pc_isN (pe_ix (ix_listK (K := K) rfl) (pv 4) (pv 6) (fun _ _ => rfl)))))) (fun _ _ _ _ _ => (pv 6)))) pa_nil))))) pss_nil) (pss_one (ps_ret (pe_tup (pa_cons (pe_gstr B.c_MOST) (pa_cons (pe_ix ix_list (pv 4) (pv 3) (fun _ _ => rfl)) (pa_cons (pe_ifExp (pt_cmpR op_ne (pv 3) (pv 2) (nomark _)) (pe_own C_steps_back (hr.mono (by decide)) rfl pass0 (pa_cons (pv 5) (pa_cons (pv 3) (pa_cons (pv 2) pa_nil)))) (pe_tup pa_nil)) pa_nil)))))))), fun U => ?_⟩
  refine sv_seq (N1 := fun ρ' μ' => μ' = [] ∧ ∃ far ah c, Apart (Lks n rs) n.k st far ah ∧ ρ' = [.d n.d, .d (rsD rs), .d (.int (st : Int)), .d (.int (gl : Int)), .d (.lst (farL n.k far)), .d (.ah c ah), .no])
    (sv_asg (P := Srch.post ⟨n.k, Lks n rs, from1 st⟩) (ev_callN (Srch.mk n.k (Lks n rs) (from1 st)) (ea_cons (ev_callG (n, rs) (ea_cons (ev_var rfl) (ea_cons (ev_var rfl) ea_nil)) hnr) (ea_cons (ev_callG (n, st) (ea_cons (ev_var rfl) (ea_cons (ev_var rfl) ea_nil)) hn) ea_nil)) hso fun d h => h) fun d hd => ?_) fun ρ' μ' h => ?_
  · rcases hd with ⟨t, c, ht, hfd, rfl⟩ | ⟨v, c, hv, rfl⟩
    · refine (gv_tup rfl (gs_cons (gv_name (gs_cons (gv_name (gs_nil ?_))))))
      exact ⟨rfl, _, _, c, apart hso rfl hπ hfd, rfl⟩
    · exact absurd hv (from_conv hso hπ)
  · obtain ⟨rfl, far, ah, c, ap, rfl⟩ := h
    refine sv_guard (b := (oD (far gl)).isN) (eb_B (ev_isN (ev_ixL (i := (gl : Int)) (d := oD (far gl)) (farL_at far hg) (ev_var rfl) (ev_var rfl)))) (fun hb => ?_) fun hb => ?_
    · rw [isN_oD] at hb
      have hnone : far gl = none := Option.isNone_iff_eq_none.mp hb
      refine sv_ret1 (ev_tup1 (ea_cons ev_str (ea_cons (EvP.to (ev_cb1 (ev_filt (f := fun d => d) (b := ltF far) (iv_rng (ea_cons (ev_propG (k := (n.k : Int)) (wd := wsD n.ws) n (ev_var rfl) rfl trivial) ea_nil) (by have := hn.2.1; omega)) (wp_name (by decide)) (by rw [upto_len]; have := hn.2.1; omega) fun i d p acc hd => ?_) cb_tup) (congrArg D.tup (by rw [Int.toNat_natCast]; exact lot_filter n.k far (ltF far) fun i _ => rfl))) ea_nil)) (show 2 ≤ 1000 by decide)) ⟨far, ah, ap, .inl ⟨hnone, rfl⟩⟩
      rw [Int.toNat_natCast] at hd
      have hi : i < n.k := by
        have := (List.getElem?_eq_some_iff.mp hd).1
        rw [upto_len] at this
        exact this
      rw [upto_get hi] at hd
      cases hd
      refine gv_name ⟨rfl, EvB.to (eb_B (ev_isN (ev_ixL (i := (i : Int)) (d := oD (far i)) (farL_at far hi) (ev_var rfl) (ev_var rfl)))) (by rw [isN_oD]; rfl), fun _ => ev_var rfl⟩
    · rw [isN_oD] at hb
      obtain ⟨x, hx⟩ : ∃ x, far gl = some x := by
        cases q : far gl with
        | none => rw [q] at hb; cases hb
        | some x => exact ⟨x, rfl⟩
      have fx := farL_at far hg
      rw [hx] at fx
      by_cases e : gl = st
      · refine sv_ret1 (ev_tup1 (ea_cons ev_str (ea_cons (ev_ixL (i := (gl : Int)) (d := .int x) fx (ev_var rfl) (ev_var rfl)) (ea_cons (ev_if (b := false) (EvB.to (eb_T (ev_neI (ev_var rfl) (ev_var rfl))) (by rw [decide_eq_true (by omega)]; rfl)) (fun h => nomatch h) fun _ => ev_tup1 ea_nil) ea_nil))) (show 3 ≤ 1000 by decide)) ⟨far, ah, ap, .inr ⟨x, [], hx, rfl, fun _ => rfl, fun h => absurd e h⟩⟩
      · obtain ⟨m, F', hb', hw, hst⟩ := ap.way gl x c hx e
        refine sv_ret1 (ev_tup1 (ea_cons ev_str (ea_cons (ev_ixL (i := (gl : Int)) (d := .int x) fx (ev_var rfl) (ev_var rfl)) (ea_cons (ev_if (b := true) (EvB.to (eb_T (ev_neI (ev_var rfl) (ev_var rfl))) (by rw [decide_eq_false (by omega)]; rfl)) (fun _ => ev_callG (Bck.mk c ah gl st m) (ea_cons (ev_var rfl) (ea_cons (ev_var rfl) (ea_cons (ev_var rfl) ea_nil))) hb') fun h => nomatch h) ea_nil))) (show 3 ≤ 1000 by decide)) ⟨far, ah, ap, .inr ⟨x, stepsOf F' m, hx, ?_, fun h => absurd h e, fun _ => ⟨m, F', hb'.m1, hw, rfl⟩⟩⟩
        show D.tup [.str "most", .int x, stepsD (wayB ah gl m)] = _
        rw [hst]
end
end RN
end

section
set_option Elab.async false
set_option linter.all false
set_option maxRecDepth 100000
set_option maxHeartbeats 2000000
set_option autoImplicit false
/-! RN_Rules: len(set(..)) of whole numbers. -/
namespace RN
open PySem PySem.Spec L2
open PyProof.Rows (step_dedup firstMet)
/-- each once, by the first place -/
def dd (ns : List Int) : List Int := ns.foldl step_dedup []
theorem range_getD (ns : List Int) : (List.range ns.length).map (fun i => ns.getD i 0) = ns := by
  refine List.ext_getElem (by simp) fun i h1 h2 => ?_
  rw [List.getElem_map, List.getElem_range, List.getD_eq_getElem?_getD, List.getElem?_eq_getElem h2]
  rfl
theorem firstMet_dd (ns : List Int) : firstMet (fun i => ns.getD i 0) ns.length = dd ns := by
  unfold firstMet dd
  rw [range_getD]
theorem dd_acc : ∀ (ns acc : List Int), acc.Nodup → (ns.foldl step_dedup acc).Nodup ∧ ∀ x, x ∈ ns.foldl step_dedup acc ↔ x ∈ acc ∨ x ∈ ns
  | [], acc, h => ⟨h, fun x => ⟨.inl, fun z => z.elim id fun z => absurd z List.not_mem_nil⟩⟩
  | n :: ns, acc, h => by
    have hstep : step_dedup acc n = if acc.any (· == n) then acc else acc ++ [n] := rfl
    have q : (step_dedup acc n).Nodup ∧ ∀ x, x ∈ step_dedup acc n ↔ x ∈ acc ∨ x = n := by
      rw [hstep]
      by_cases ha : acc.any (· == n) = true
      · rw [if_pos ha]
        refine ⟨h, fun x => ⟨.inl, fun z => z.elim id fun z => ?_⟩⟩
        obtain ⟨y, h1, h2⟩ := List.any_eq_true.mp ha
        rw [z, ← eq_of_beq h2]
        exact h1
      · rw [if_neg ha]
        have hn : n ∉ acc := fun z => ha (List.any_eq_true.mpr ⟨n, z, by simp⟩)
        refine ⟨List.nodup_append.mpr ⟨h, by simp, fun a h1 b h2 e => ?_⟩, fun x => by simp⟩
        rw [List.mem_singleton] at h2
        exact hn (by rw [← h2, ← e]; exact h1)
    obtain ⟨r1, r2⟩ := dd_acc ns (step_dedup acc n) q.1
    refine ⟨r1, fun x => ?_⟩
    show x ∈ ns.foldl step_dedup (step_dedup acc n) ↔ _
    rw [r2, q.2, List.mem_cons, or_assoc]
theorem dd_nodup (ns : List Int) : (dd ns).Nodup := (dd_acc ns [] List.nodup_nil).1
theorem dd_mem (ns : List Int) (x : Int) : x ∈ dd ns ↔ x ∈ ns := by
  have := (dd_acc ns [] List.nodup_nil).2 x
  rw [show dd ns = ns.foldl step_dedup [] from rfl, this]
  simp
theorem nodup_len {l m : List Int} (h1 : l.Nodup) (h2 : m.Nodup) (h : ∀ x, x ∈ l ↔ x ∈ m) : l.length = m.length := (List.perm_ext_iff_of_nodup h1 h2).mpr h |>.length_eq
theorem dd_len_nodup {ns : List Int} (h : ns.Nodup) : (dd ns).length = ns.length := nodup_len (dd_nodup ns) h (dd_mem ns)
theorem sub_len : ∀ {l m : List Int}, l.Nodup → (∀ x, x ∈ l → x ∈ m) → l.length ≤ m.length
  | [], m, _, _ => Nat.zero_le _
  | a :: l, m, h, hs => by
    obtain ⟨ha, hl⟩ := List.nodup_cons.mp h
    have hm : a ∈ m := hs a List.mem_cons_self
    have := sub_len (m := m.erase a) hl fun x hx => (List.mem_erase_of_ne (fun e => ha (by rw [← e]; exact hx))).mpr (hs x (List.mem_cons_of_mem _ hx))
    rw [List.length_erase_of_mem hm] at this
    have : 0 < m.length := List.length_pos_of_mem hm
    rw [List.length_cons]
    omega
theorem dd_len_lt {ns : List Int} (h : ¬ ns.Nodup) : (dd ns).length < ns.length := by
  have aux : ∀ {ns : List Int}, ¬ ns.Nodup → ∃ ms : List Int, ms.length < ns.length ∧ ∀ x, x ∈ ns → x ∈ ms := fun {ns} => by
    induction ns with
    | nil => exact fun h => absurd List.nodup_nil h
    | cons a l ih =>
      intro h
      by_cases ha : a ∈ l
      · exact ⟨l, by simp, fun x hx => (List.mem_cons.mp hx).elim (fun e => by rw [e]; exact ha) id⟩
      · have hl : ¬ l.Nodup := fun z => h (List.nodup_cons.mpr ⟨ha, z⟩)
        obtain ⟨ms, h1, h2⟩ := ih hl
        exact ⟨a :: ms, by simp; exact h1, fun x hx => (List.mem_cons.mp hx).elim (fun e => by rw [e]; exact List.mem_cons_self) fun z => List.mem_cons_of_mem _ (h2 x z)⟩
  obtain ⟨ms, h1, h2⟩ := aux h
  have := sub_len (dd_nodup ns) fun x hx => h2 x ((dd_mem ns x).mp hx)
  omega
theorem dd_iff (ns : List Int) : decide (((dd ns).length : Int) = (ns.length : Int)) = decide ns.Nodup := by
  by_cases h : ns.Nodup
  · rw [decide_eq_true h, dd_len_nodup h, decide_eq_true rfl]
  · rw [decide_eq_false h]
    have := dd_len_lt h
    exact decide_eq_false (by omega)
def tLenSet (K : PySem.W.Frag) (ta : TE) : TE := fun σ H Q => ta σ H fun x H1 => ∃ (l : Addr) (ns : List Int), x = .ref l ∧ SqL K H1 l (ns.map V.int) ∧ ns.length ≤ 4000 ∧ Q (.int ((dd ns).length : Nat)) H1
theorem pe_lenset {X : Cx} {a : Expr} {ta : TE} {p p2 q pos : Pos} (hc : X.calm = true) (hm : X.mg "len" = none) (hm2 : X.mg "set" = none) (ha : PE X a ta) (hg : Gl X "len" := by rfl) (hg2 : Gl X "set" := by rfl)
    (na : starEach [a] X.env = (false, eval a X.env) :: starEach [] X.env := by rfl) : PE X (.Call (.Name "len" p) [.Call (.Name "set" p2) [a] [] q] [] pos) (tLenSet X.K ta) := by
  refine ⟨fun pins s σ H Q I h => ?_⟩
  refine PyProof.Rows.Call_ (ld_blt I hg hm PySem.boot_len ?_)
  refine PyProof.Rows.callWith_builtin1 (PyProof.Rows.args_cons ?_ rfl) rfl rfl
  refine PyProof.Rows.Call_ (ld_blt I hg2 hm2 PyProof.Rows.boot_set ?_)
  refine PyProof.Rows.callWith_type1 (PyProof.Rows.args_cons (thn (ha.run pins s σ H _ I h) fun v s1 ⟨x, H1, I1, r1, q1⟩ => PyProof.Rows.args_nil ?_) na) na rfl
  obtain ⟨l, ns, rfl, hq, hl, q1⟩ := q1
  cases r1
  obtain ⟨its, r, pl, hz⟩ := I1.list hq
  have hlen : its.toArray.size = ns.length := by rw [List.size_toArray, ← r.length, List.length_map]
  refine call_set_list (I1.ok.hd hc) pl.isList (by simpa using RZ.intsAre_vals r) (by rw [hlen]; unfold scanBound; omega) fun h' tk hS hk => ?_
  refine PyProof.Rows.args_nil ?_
  rw [hlen, firstMet_dd] at hS
  obtain ⟨o, es, ep, t, ho, hex, hd, _, _, _, hf, hn⟩ := hS
  have I2 : Inv X pins σ H1 { s1 with heap := h', toks := tk } := I1.kept fun b o e => hk b o (Heap.lt_size e) e
  have hdl : (dd ns).length ≤ ns.length := sub_len (dd_nodup ns) fun x hx => (dd_mem ns x).mp hx
  exact call_len_set ho hex hd hf (by rw [hn] <;> omega) ⟨.int ((dd ns).length : Nat), H1, I2.tok _, ⟨_, by rw [hn]⟩, q1⟩
section
variable {W : Wd} {ρ : List Sl} {μ : List Cell} {ta : TE} {K : PySem.W.Frag}
theorem ev_lenset {ns : List Int} (hl : ns.length ≤ 4000) (ha : EvP W ta ρ μ (Is (.lst (ns.map D.int)))) : EvP W (tLenSet K ta) ρ μ (Is (.int ((dd ns).length : Nat))) := fun σ H s Q q =>
  ha σ H s _ fun v H1 d e1 s1 r1 p1 => by
    rw [show d = _ from p1] at r1
    obtain ⟨a, xs, rfl, n, e, rl⟩ := r1
    rw [rl.ints] at e
    exact ⟨a, ns, rfl, SqL.of e, hl, q _ H1 (.int ((dd ns).length : Nat)) e1 s1 rfl rfl⟩
end
end RN
end

section
set_option Elab.async false
set_option linter.all false
set_option maxRecDepth 100000
set_option maxHeartbeats 2000000
set_option autoImplicit false
/-! RN_Val: the values that are asked about, and what each question answers, in plain Lean. -/
namespace RN
open PySem
mutual
/-- numbers, truth values, None, texts; tuples and lists of such, of bounded length -/
def D.vl : D → Bool
  | .non => true
  | .bl _ => true
  | .int _ => true
  | .str _ => true
  | .tup ds => decide (ds.length ≤ 500) && vlL ds
  | .lst ds => decide (ds.length ≤ 500) && vlL ds
  | .net _ _ => false
  | .ah _ _ => false
  | .dt _ _ => false
  | .ty _ => false
  | .cls _ => false
def vlL : List D → Bool
  | [] => true
  | d :: ds => d.vl && vlL ds
end
theorem vlL_all : ∀ {ds : List D}, vlL ds = true → ∀ d ∈ ds, d.vl = true
  | [], _, d, h => absurd h List.not_mem_nil
  | a :: ds, h, d, hd => by
    have h' : (a.vl && vlL ds) = true := h
    rw [Bool.and_eq_true] at h'
    rcases List.mem_cons.mp hd with e | e
    · rw [e]; exact h'.1
    · exact vlL_all h'.2 d e
theorem all_vlL : ∀ {ds : List D}, (∀ d ∈ ds, d.vl = true) → vlL ds = true
  | [], _ => rfl
  | a :: ds, h => by
    show (a.vl && vlL ds) = true
    rw [h a List.mem_cons_self, all_vlL fun d hd => h d (List.mem_cons_of_mem _ hd)]
    rfl
theorem vl_tup {ds : List D} (h : (D.tup ds).vl = true) : ds.length ≤ 500 ∧ ∀ d ∈ ds, d.vl = true := by
  have h' : (decide (ds.length ≤ 500) && vlL ds) = true := h
  rw [Bool.and_eq_true, decide_eq_true_eq] at h'
  exact ⟨h'.1, vlL_all h'.2⟩
theorem vl_pl {d : D} (h : d.vl = true) : d.pl := by
  cases d <;> first | rfl | cases h
def isPair : D → Bool
  | .tup [_, _] => true
  | _ => false
def pairWhole : D → Bool
  | .tup [a, b] => a.whole && b.whole
  | _ => false
def stepIn (k : Nat) : D → Bool
  | .tup [.int w, .int y] => (decide (0 ≤ w) && decide (w < (k : Int))) && (decide (1 = y) || decide (-1 = y))
  | _ => false
def stepOk (k : Nat) (d : D) : Bool := isPair d && (pairWhole d && stepIn k d)
def areSteps (k : Nat) : D → Bool
  | .tup ds => ds.all (stepOk k)
  | _ => false
def StepIn (k : Nat) (p : Nat × Int) : Prop := p.1 < k ∧ (p.2 = 1 ∨ p.2 = -1)
theorem stepOk_is {k : Nat} {d : D} (h : stepOk k d = true) : ∃ p, d = stD p ∧ StepIn k p := by
  unfold stepOk at h
  rw [Bool.and_eq_true, Bool.and_eq_true] at h
  obtain ⟨q1, q2, h3⟩ := h
  unfold stepIn at h3
  split at h3
  · rename_i w y
    rw [Bool.and_eq_true, Bool.and_eq_true, Bool.or_eq_true, decide_eq_true_eq, decide_eq_true_eq, decide_eq_true_eq, decide_eq_true_eq] at h3
    obtain ⟨⟨h1, h2⟩, h4⟩ := h3
    refine ⟨(w.toNat, y), ?_, by show w.toNat < k; omega, h4.elim (fun e => .inl e.symm) fun e => .inr e.symm⟩
    show D.tup [.int w, .int y] = D.tup [.int (w.toNat : Int), .int y]
    rw [Int.toNat_of_nonneg h1]
  · cases h3
theorem stepOk_st {k : Nat} {p : Nat × Int} (h : StepIn k p) : stepOk k (stD p) = true := by
  obtain ⟨h1, h2⟩ := h
  show (true && ((true && true) && ((decide ((0 : Int) ≤ (p.1 : Int)) && decide ((p.1 : Int) < (k : Int))) && (decide (1 = p.2) || decide (-1 = p.2))))) = true
  rw [decide_eq_true (by omega), decide_eq_true (by omega)]
  rcases h2 with e | e <;> rw [e] <;> rfl
theorem areSteps_is {k : Nat} {v : D} (h : areSteps k v = true) : ∃ st, v = stepsD st ∧ ∀ p ∈ st, StepIn k p := by
  cases v with
  | tup ds =>
    have h' : ds.all (stepOk k) = true := h
    clear h
    induction ds with
    | nil => exact ⟨[], rfl, fun p hp => absurd hp List.not_mem_nil⟩
    | cons d ds ih =>
      rw [List.all_cons, Bool.and_eq_true] at h'
      obtain ⟨p, rfl, hp⟩ := stepOk_is h'.1
      obtain ⟨st, h1, h2⟩ := ih h'.2
      refine ⟨p :: st, ?_, fun q hq => (List.mem_cons.mp hq).elim (fun e => by rw [e]; exact hp) (h2 q)⟩
      have h1' : D.tup ds = D.tup (st.map stD) := h1
      injection h1' with h3
      show D.tup (stD p :: ds) = D.tup (stD p :: st.map stD)
      rw [h3]
  | _ => cases h
theorem areSteps_st {k : Nat} {st : List (Nat × Int)} (h : ∀ p ∈ st, StepIn k p) : areSteps k (stepsD st) = true := by
  show (st.map stD).all (stepOk k) = true
  rw [List.all_map, List.all_eq_true]
  exact fun p hp => stepOk_st (h p hp)
/-! ### knots of a way, its length -/
def wireAt (ws : List Wi) (i : Nat) : Wi := ws.getD i ⟨0, 0, .lev 0⟩
def endsOf (ws : List Wi) (p : Nat × Int) : Nat × Nat := if p.2 = 1 then ((wireAt ws p.1).t, (wireAt ws p.1).h) else ((wireAt ws p.1).h, (wireAt ws p.1).t)
/-- the knots after the first -/
def wayK (ws : List Wi) : List (Nat × Int) → Nat → Option (List Nat)
  | [], _ => some []
  | p :: r, c => if (endsOf ws p).1 = c then (wayK ws r (endsOf ws p).2).map ((endsOf ws p).2 :: ·) else none
def lastK : Nat → List Nat → Nat
  | c, [] => c
  | _, x :: ks => lastK x ks
theorem lastK_snoc : ∀ (c : Nat) (ks : List Nat) (x : Nat), lastK c (ks ++ [x]) = x
  | _, [], _ => rfl
  | _, y :: ks, x => lastK_snoc y ks x
theorem lastK_cons (c x : Nat) (ks : List Nat) : lastK c (x :: ks) = lastK x ks := rfl
theorem wayK_snoc (ws : List Wi) (p : Nat × Int) : ∀ (l : List (Nat × Int)) (c : Nat), wayK ws (l ++ [p]) c = (wayK ws l c).bind fun ks => if (endsOf ws p).1 = lastK c ks then some (ks ++ [(endsOf ws p).2]) else none
  | [], c => by
    show (if (endsOf ws p).1 = c then (some ([] : List Nat)).map ((endsOf ws p).2 :: ·) else none) = if (endsOf ws p).1 = c then some ([] ++ [(endsOf ws p).2]) else none
    rfl
  | q :: l, c => by
    show (if (endsOf ws q).1 = c then (wayK ws (l ++ [p]) (endsOf ws q).2).map ((endsOf ws q).2 :: ·) else none) = (if (endsOf ws q).1 = c then (wayK ws l (endsOf ws q).2).map ((endsOf ws q).2 :: ·) else none).bind _
    by_cases h : (endsOf ws q).1 = c
    · rw [if_pos h, if_pos h, wayK_snoc ws p l]
      cases wayK ws l (endsOf ws q).2 with
      | none => rfl
      | some ks =>
        show (if (endsOf ws p).1 = lastK (endsOf ws q).2 ks then some (ks ++ [(endsOf ws p).2]) else none).map _ = if (endsOf ws p).1 = lastK c ((endsOf ws q).2 :: ks) then some (((endsOf ws q).2 :: ks) ++ [(endsOf ws p).2]) else none
        rw [lastK_cons]
        split <;> rfl
    · rw [if_neg h, if_neg h]
      rfl
theorem wayK_none (ws : List Wi) : ∀ (l r : List (Nat × Int)) (c : Nat), wayK ws l c = none → wayK ws (l ++ r) c = none
  | [], _, _, h => nomatch h
  | q :: l, r, c, h => by
    have h' : (if (endsOf ws q).1 = c then (wayK ws l (endsOf ws q).2).map ((endsOf ws q).2 :: ·) else none) = none := h
    show (if (endsOf ws q).1 = c then (wayK ws (l ++ r) (endsOf ws q).2).map ((endsOf ws q).2 :: ·) else none) = none
    by_cases e : (endsOf ws q).1 = c
    · rw [if_pos e] at h' ⊢
      cases z : wayK ws l (endsOf ws q).2 with
      | none => rw [wayK_none ws l r _ z]; rfl
      | some ks => rw [z] at h'; cases h'
    · rw [if_neg e]
def rangeAt (rs : List Rg) (i : Nat) : Rg := rs.getD i (none, none)
/-- what a step adds -/
def stepLen (rs : List Rg) (p : Nat × Int) : Option Int := if p.2 = 1 then (rangeAt rs p.1).1.map (- ·) else (rangeAt rs p.1).2
def lenOf (rs : List Rg) : List (Nat × Int) → Option Int
  | [] => some 0
  | p :: r => match stepLen rs p, lenOf rs r with
    | some x, some y => some (x + y)
    | _, _ => none
def isWay (ws : List Wi) (s g : Nat) (st : List (Nat × Int)) : Bool := match wayK ws st s with
  | none => false
  | some ks => decide (lastK s ks = g) && decide (s :: ks).Nodup
/-! ### lots of knots -/
def knotIn (k : Nat) : D → Bool
  | .int i => decide (0 ≤ i) && decide (i < (k : Int))
  | _ => false
def risesD : List D → Bool
  | [] => true
  | [_] => true
  | .int a :: .int b :: r => decide (a < b) && risesD (.int b :: r)
  | _ => false
def isLot (k : Nat) : D → Bool
  | .tup ds => ds.all (knotIn k) && risesD ds
  | _ => false
def isInt (d : D) (i : Int) : Bool := match d with
  | .int j => decide (j = i)
  | _ => false
def inLot (l : List D) (x : Nat) : Bool := l.any fun d => d.eqS (.int (x : Int))
def canRise (ws : List Wi) (rs : List Rg) (l : List D) : Bool := (List.range ws.length).all fun i =>
  !(inLot l (wireAt ws i).t && (!inLot l (wireAt ws i).h && (rangeAt rs i).2.isSome)) && !(inLot l (wireAt ws i).h && (!inLot l (wireAt ws i).t && (rangeAt rs i).1.isSome))
def dItems : D → List D
  | .tup ds => ds
  | _ => []
def unStep : D → Nat × Int
  | .tup [.int w, .int y] => (w.toNat, y)
  | _ => (0, 0)
def unSteps : D → List (Nat × Int)
  | .tup ds => ds.map unStep
  | _ => []
theorem unSteps_st (st : List (Nat × Int)) : unSteps (stepsD st) = st := by
  show (st.map stD).map unStep = st
  rw [List.map_map]
  have : (unStep ∘ stD) = id := by
    funext p
    show (((p.1 : Int)).toNat, p.2) = p
    rw [Int.toNat_natCast]
  rw [this, List.map_id]
def isMost (ws : List Wi) (rs : List Rg) (s g : Nat) (x : Option Int) (a b : D) : Bool := match x with
  | none => false
  | some y => isInt a y && (areSteps ws.length b && (isWay ws s g (unSteps b) && decide (lenOf rs (unSteps b) = some y)))
/-- the answer of is_farthest_in; x: the distance that was reckoned -/
def isFar (ws : List Wi) (rs : List Rg) (k s g : Nat) (x : Option Int) : D → Bool
  | .tup [.str w, a, b] => decide (w = "most") && (a.whole && isMost ws rs s g x a b)
  | .tup [.str w, a] => decide (w = "endless") && (isLot k a && (inLot (dItems a) g && (!inLot (dItems a) s && canRise ws rs (dItems a))))
  | _ => false
end RN
end

section
set_option Elab.async false
set_option linter.all false
set_option maxRecDepth 100000
set_option maxHeartbeats 4000000
set_option autoImplicit false
/-! RN_W8: steps, ways, lengths. -/
namespace RN
open PySem PySem.Spec L2
theorem isPair_tup (ds : List D) : isPair (.tup ds) = decide ((ds.length : Int) = 2) := by
  match ds with
  | [] => rfl
  | [a] => rfl
  | [a, b] => rfl
  | a :: b :: c :: r =>
    show false = _
    rw [decide_eq_false]
    simp only [List.length_cons]
    omega
theorem isPair_is {d : D} (h : isPair d = true) : ∃ a b, d = .tup [a, b] := by
  unfold isPair at h
  split at h
  · exact ⟨_, _, rfl⟩
  · cases h
theorem whole_is {d : D} (h : d.whole = true) : ∃ i, d = .int i := by
  cases d <;> first | exact ⟨_, rfl⟩ | exact Bool.noConfusion h
theorem pairWhole_is {d : D} (h : pairWhole d = true) : ∃ w y, d = .tup [.int w, .int y] := by
  unfold pairWhole at h
  split at h
  · rename_i a b
    rw [Bool.and_eq_true] at h
    obtain ⟨x, rfl⟩ := whole_is h.1
    obtain ⟨y, rfl⟩ := whole_is h.2
    exact ⟨_, _, rfl⟩
  · cases h
theorem steps_all (k : Nat) : ∀ {ds : List D}, ds.all isPair = true → ds.all pairWhole = true → ds.all (stepIn k) = ds.all (stepOk k)
  | [], _, _ => rfl
  | d :: ds, h1, h2 => by
    rw [List.all_cons, Bool.and_eq_true] at h1 h2
    rw [List.all_cons, List.all_cons, steps_all k h1.2 h2.2]
    unfold stepOk
    rw [h1.1, h2.1]
    rfl
theorem steps_not (k : Nat) (p : D → Bool) (hp : ∀ d, stepOk k d = true → p d = true) {ds : List D} (h : ds.all p = false) : ds.all (stepOk k) = false := by
  cases q : ds.all (stepOk k) with
  | false => rfl
  | true =>
    rw [List.all_eq_true] at q
    have := List.all_eq_true.mpr fun d hd => hp d (q d hd)
    rw [this] at h
    cases h
abbrev spAreSteps (CN : Addr) : Sp := spG (α := NetD × D) CN (fun z => [z.1.d, z.2]) (fun z => z.1.ok ∧ z.2.vl = true) fun z => .bl (areSteps z.1.ws.length z.2)
abbrev spKStep (CN : Addr) : Sp := spG (α := NetD × (Nat × Int)) CN (fun z => [z.1.d, stD z.2]) (fun z => StepIn z.1.ws.length z.2) fun z => .tup [.int ((endsOf z.1.ws z.2).1 : Int), .int ((endsOf z.1.ws z.2).2 : Int)]
structure KWay where
  n : NetD
  st : List (Nat × Int)
  s : Nat
def wayD (s : Nat) : Option (List Nat) → D
  | none => .non
  | some ks => .lst ((s :: ks).map fun (k : Nat) => D.int (k : Int))
abbrev spKWay (CN : Addr) : Sp := spG (α := KWay) CN (fun z => [z.n.d, stepsD z.st, .int (z.s : Int)]) (fun z => (∀ p ∈ z.st, StepIn z.n.ws.length p) ∧ z.st.length ≤ 500) fun z => wayD z.s (wayK z.n.ws z.st z.s)
abbrev spLen (CN : Addr) : Sp := spG (α := List Rg × List (Nat × Int)) CN (fun z => [rsD z.1, stepsD z.2]) (fun z => (∀ p ∈ z.2, StepIn z.1.length p) ∧ z.2.length ≤ 500) fun z => oD (lenOf z.1 z.2)
structure IsWay where
  n : NetD
  s : Nat
  g : Nat
  v : D
abbrev spIsWay (CN : Addr) : Sp := spG (α := IsWay) CN (fun z => [z.n.d, .int (z.s : Int), .int (z.g : Int), z.v]) (fun z => z.n.ok ∧ z.v.vl = true) fun z => .bl (areSteps z.n.ws.length z.v && isWay z.n.ws z.s z.g (unSteps z.v))
section
variable {W : Wd} {ρ : List Sl} {μ : List Cell} {te : TE} {K : PySem.W.Frag}
theorem ev_pair {d : D} (h : EvP W te ρ μ (Is d)) (hp : d.pl) : EvP W (tAndV (tCB (rIsi K) (tCons te (tCons (tC (.ty "tuple")) tNil))) (tOp rEq (tCB (rLenS K) (tCons te tNil)) (tC (.int 2)))) ρ μ (Is (.bl (isPair d))) := by
  refine EvP.to (ev_andV (a := d.isT) (b := isPair d) (ev_isT h hp) fun ht => ?_) ?_
  · cases d <;> try cases ht
    rename_i ds
    exact EvP.to (ev_eqI (ev_lenT h) ev_int) (congrArg D.bl (isPair_tup ds).symm)
  · cases d <;> rfl
end
section
variable {P : Program} {w : World} {K : PySem.W.Frag} {mg : Str → Option Value} {base : Heap} {CN CP : Addr} {f : Addr} {fd : FuncData}
theorem ok_are_steps (B : Bf mg) (NF : NetF K CN CP) (C_is_whole : Cal P w K mg base CX0 1 "is_whole" ["value"] (spWhole CN)) (C_wires : Prp P w K mg base CN 1 "wires" (spWires CN)) (g : mg "are_steps" = some (.ref f)) (F : FnP K "are_steps" s_are_steps f fd) : Cal P w K mg base CX0 3 "are_steps" ["net", "value"] (spAreSteps CN) := by
  refine cal_mk g F (fun _ _ _ _ _ _ us hl => match us, hl with | [_, _], _ => rfl) (fn_N _ _ _ F sc_are_steps (fun _ => rfl) fun cdv A outer s H E hr z hz => ?_)
  obtain ⟨n, v⟩ := z
  obtain ⟨hn, hv⟩ := hz
  replace hv : v.vl = true := hv
  refine ⟨_, (pss_cons (ps_if (PW.pt (pw_or (pt_not (pt_val (pe_isi B.b_isinstance (pv 1) (pe_tyn (n := "tuple") B.b_tuple PyProof.Rows.boot_tuple)))) (pw_or1 (pt_not (pt_val (pe_all rfl B.b_all (pe_lc (own := [("step", 4)]) (g := (gName 4)) rfl sc_are_steps.nd (pi_tup (pv 1)) (blkOk_by (own := [("step", 4)]) (N := n_are_steps) (sc := defScope s_are_steps) (by decide +kernel)) (fun _ _ _ _ _ => (pg_name (i := 4) sc_are_steps.nd rfl (by first | exact Or.inl rfl | exact Or.inr rfl))) (fun _ _ _ _ _ => pts_nil) (fun _ _ _ _ _ => (pe_and (pe_isiK (K := K) rfl B.b_isinstance (pv 4) (pe_tyn (n := "tuple") B.b_tuple PyProof.Rows.boot_tuple)) (pe_one (pe_cmpR op_eq (pe_lenK (K := K) rfl B.b_len (pv 4)) (pe_gint B.c_PAIR_heights) (nomark _)))))))))))) (pss_one (ps_ret pe_bl)) pss_nil) (pss_cons (ps_if (pt_not (pt_val (pe_all rfl B.b_all (pe_lc (own := [("wire", 2), ("way", 3)]) (g := (gTup _ 2 (gCons (gName 2) (gCons (gName 3) gNil)))) rfl sc_are_steps.nd (pi_tup (pv 1)) (blkOk_by (own := [("wire", 2), ("way", 3)]) (N := n_are_steps) (sc := defScope s_are_steps) (by decide +kernel)) (fun _ _ _ _ _ => (pg_tup rfl (pgs_cons (pg_name (i := 2) sc_are_steps.nd rfl (by first | exact Or.inl rfl | exact Or.inr rfl)) (pgs_cons (pg_name (i := 3) sc_are_steps.nd rfl (by first | exact Or.inl rfl | exact Or.inr rfl)) pgs_nil)))) (fun _ _ _ _ _ => pts_nil) (fun _ _ _ _ _ => (pe_and (pe_own C_is_whole (hr.mono (by decide)) rfl pass0 (pa_cons (pv 2) pa_nil)) (pe_one (pe_own C_is_whole (hr.mono (by decide)) rfl pass0 (pa_cons (pv 3) pa_nil))))))))) (pss_one (ps_ret pe_bl)) pss_nil) (pss_one (ps_ret (pe_all rfl B.b_all (pe_lc (own := [("wire", 2), ("way", 3)]) (g := (gTup _ 2 (gCons (gName 2) (gCons (gName 3) gNil)))) rfl sc_are_steps.nd (pi_tup (pv 1)) (blkOk_by (own := [("wire", 2), ("way", 3)]) (N := n_are_steps) (sc := defScope s_are_steps) (by decide +kernel)) (fun _ _ _ _ _ => (pg_tup rfl (pgs_cons (pg_name (i := 2) sc_are_steps.nd rfl (by first | exact Or.inl rfl | exact Or.inr rfl)) (pgs_cons (pg_name (i := 3) sc_are_steps.nd rfl (by first | exact Or.inl rfl | exact Or.inr rfl)) pgs_nil)))) (fun _ _ _ _ _ => pts_nil) (fun _ _ _ _ _ => (pe_and (pe_chain op_le op_lt pe_int (pv 2) (pe_lenK (K := K) rfl B.b_len (pe_net_prop NF C_wires (hr.mono (by decide)) (pv 0)))) (pe_one (pe_cmpR (op_inK (K := K) rfl) (pv 3) (pe_tup (pa_cons (pe_gint B.c_FORWARD) (pa_cons (pe_gint B.c_BACK) pa_nil))) (by rfl))))))))))), fun U => ?_⟩
  by_cases hT : ∃ ds, v = .tup ds
  · obtain ⟨ds, rfl⟩ := hT
    obtain ⟨hl, hall⟩ := vl_tup hv
    have hel : ∀ {i : Nat} {d : D}, ds[i]? = some d → d.vl = true := fun h => hall _ (List.mem_of_getElem? h)
    refine sv_guard (b := !ds.all isPair) (EvB.to (eb_or (a := false) (b := !ds.all isPair) (EvB.to (eb_not (eb_B (ev_isT (ev_var rfl)))) rfl) fun _ => eb_not (eb_B (ev_allM (f := isPair) (ev_map (f := fun d => .bl (isPair d)) (iv_tup (ev_var rfl)) (wp_name (by decide)) (by omega) fun i d p acc hd => gv_name ⟨rfl, ev_pair (ev_var rfl) (vl_pl (hel hd))⟩)))) rfl) (fun hb => ?_) fun hb => ?_
    · refine sv_ret1 ev_bl ?_
      rw [Bool.not_eq_true'] at hb
      exact congrArg D.bl (steps_not n.ws.length isPair (fun d h => by unfold stepOk at h; rw [Bool.and_eq_true] at h; exact h.1) hb).symm
    · rw [Bool.not_eq_false'] at hb
      have hp : ∀ {i : Nat} {d : D}, ds[i]? = some d → isPair d = true := fun h => List.all_eq_true.mp hb _ (List.mem_of_getElem? h)
      refine sv_guard (b := !ds.all pairWhole) (eb_not (eb_B (ev_allM (f := pairWhole) (ev_map (f := fun d => .bl (pairWhole d)) (iv_tup (ev_var rfl)) (wp_tup (wps_cons (wp_name (by decide)) (wps_cons (wp_name (by decide)) wps_nil))) (by omega) fun i d p acc hd => ?_)))) (fun hb2 => ?_) fun hb2 => ?_
      · obtain ⟨a, b, rfl⟩ := isPair_is (hp hd)
        have hab := (vl_tup (hel hd)).2
        refine (gv_tup rfl (gs_cons (gv_name (gs_cons (gv_name (gs_nil ?_))))))
        exact ⟨rfl, ev_andV (ev_callG a (ea_cons (ev_var rfl) ea_nil) (vl_pl (hab a (by simp)))) fun _ => ev_callG b (ea_cons (ev_var rfl) ea_nil) (vl_pl (hab b (by simp)))⟩
      · refine sv_ret1 ev_bl ?_
        rw [Bool.not_eq_true'] at hb2
        exact congrArg D.bl (steps_not n.ws.length pairWhole (fun d h => by unfold stepOk at h; rw [Bool.and_eq_true, Bool.and_eq_true] at h; exact h.2.1) hb2).symm
      · rw [Bool.not_eq_false'] at hb2
        have hw : ∀ {i : Nat} {d : D}, ds[i]? = some d → pairWhole d = true := fun h => List.all_eq_true.mp hb2 _ (List.mem_of_getElem? h)
        refine sv_ret1 (EvP.to (ev_allM (f := stepIn n.ws.length) (ev_map (f := fun d => .bl (stepIn n.ws.length d)) (iv_tup (ev_var rfl)) (wp_tup (wps_cons (wp_name (by decide)) (wps_cons (wp_name (by decide)) wps_nil))) (by omega) fun i d p acc hd => ?_)) (congrArg D.bl (steps_all n.ws.length hb hb2))) rfl
        obtain ⟨x, y, rfl⟩ := pairWhole_is (hw hd)
        refine (gv_tup rfl (gs_cons (gv_name (gs_cons (gv_name (gs_nil ?_))))))
        refine ⟨rfl, EvP.to (ev_andV (ev_chain ev_int (ev_var rfl) (od_I0 fun _ => rfl) (fun _ => ev_lenT (ds := n.ws.map Wi.d) (ev_propG (k := (n.k : Int)) (wd := wsD n.ws) n (ev_var rfl) rfl trivial)) fun _ => od_I0 fun _ => rfl) fun _ => ev_op1 (ev_var rfl) (ev_tup1 (ea_cons ev_int (ea_cons ev_int ea_nil)) (show 2 ≤ 1000 by decide)) (od_in (.inl rfl) rfl rfl)) (congrArg D.bl ?_)⟩
        rw [List.length_map]
        show ((decide ((0 : Int) ≤ x) && decide (x < (n.ws.length : Int))) && ((1 == y) || ((-1 == y) || false))) = ((decide ((0 : Int) ≤ x) && decide (x < (n.ws.length : Int))) && (decide (1 = y) || decide (-1 = y)))
        rw [Bool.or_false]
        congr 1
  · have hnt : v.isT = false := by
      cases v <;> first | rfl | exact absurd ⟨_, rfl⟩ hT
    have hna : areSteps n.ws.length v = false := by
      cases v <;> first | rfl | exact absurd ⟨_, rfl⟩ hT
    refine sv_guard (b := true) (EvB.to (eb_or (a := true) (b := true) (EvB.to (eb_not (eb_B (ev_isT (ev_var rfl) (vl_pl hv)))) (by rw [hnt]; rfl)) fun h => nomatch h) rfl) (fun _ => sv_ret1 ev_bl (congrArg D.bl hna.symm)) fun h => nomatch h
theorem wireAt_get {ws : List Wi} {i : Nat} (h : i < ws.length) : ws[i]? = some (wireAt ws i) := by
  unfold wireAt
  rw [List.getD_eq_getElem?_getD, List.getElem?_eq_getElem h]
  rfl
theorem rangeAt_get {rs : List Rg} {i : Nat} (h : i < rs.length) : rs[i]? = some (rangeAt rs i) := by
  unfold rangeAt
  rw [List.getD_eq_getElem?_getD, List.getElem?_eq_getElem h]
  rfl
theorem ok_knots_of_step (B : Bf mg) (NF : NetF K CN CP) (C_wires : Prp P w K mg base CN 1 "wires" (spWires CN)) (g : mg "knots_of_step" = some (.ref f)) (F : FnP K "knots_of_step" s_knots_of_step f fd) : Cal P w K mg base CX0 3 "knots_of_step" ["net", "step"] (spKStep CN) := by
  refine cal_mk g F (fun _ _ _ _ _ _ us hl => match us, hl with | [_, _], _ => rfl) (fn_N _ _ _ F sc_knots_of_step (fun _ => rfl) fun cdv A outer s H E hr z hz => ?_)
  obtain ⟨n, i, y⟩ := z
  obtain ⟨h1, h2⟩ := hz
  replace h1 : i < n.ws.length := h1
  refine ⟨_, (pss_cons (ps_asg (pe_ix ix_tup (pe_net_prop NF C_wires (hr.mono (by decide)) (pv 0)) (pe_ix ix_tup (pv 1) pe_int (fun _ _ => rfl)) (fun _ _ => rfl)) (pg_tup rfl (pgs_cons (pg_name (i := 2) sc_knots_of_step.nd rfl (by first | exact Or.inl rfl | exact Or.inr rfl)) (pgs_cons (pg_name (i := 3) sc_knots_of_step.nd rfl (by first | exact Or.inl rfl | exact Or.inr rfl)) (pgs_cons (pg_name (i := 4) sc_knots_of_step.nd rfl (by first | exact Or.inl rfl | exact Or.inr rfl)) pgs_nil))))) (pss_one (ps_ret (pe_ifExp (pt_cmpR op_eq (pe_ix ix_tup (pv 1) pe_int (fun _ _ => rfl)) (pe_gint B.c_FORWARD) (nomark _)) (pe_tup (pa_cons (pv 2) (pa_cons (pv 3) pa_nil))) (pe_tup (pa_cons (pv 3) (pa_cons (pv 2) pa_nil))))))), fun U => ?_⟩
  have hx : (n.ws.map Wi.d)[i]? = some (wireAt n.ws i).d := by
    rw [List.getElem?_map, wireAt_get h1]
    rfl
  refine sv_seq (N1 := fun ρ' μ' => ρ' = [.d n.d, .d (stD (i, y)), .d (.int ((wireAt n.ws i).t : Int)), .d (.int ((wireAt n.ws i).h : Int)), .d (wireAt n.ws i).r.d] ∧ μ' = []) (sv_asg (P := Is (wireAt n.ws i).d) (ev_ixT (i := (i : Int)) (ds := n.ws.map Wi.d) (atI_nat hx) (ev_propG (k := (n.k : Int)) (wd := wsD n.ws) n (ev_var rfl) rfl trivial) (ev_ixT (i := 0) (ds := [.int (i : Int), .int y]) rfl (ev_var rfl) ev_int)) fun d hd => ?_) fun ρ' μ' h => ?_
  · rw [show d = _ from hd]
    refine (gv_tup rfl (gs_cons (gv_name (gs_cons (gv_name (gs_cons (gv_name (gs_nil ?_))))))))
    exact ⟨rfl, rfl⟩
  · obtain ⟨rfl, rfl⟩ := h
    refine sv_ret1 (ev_if (b := decide (y = 1)) (eb_T (ev_eqI (ev_ixT (i := 1) (ds := [.int (i : Int), .int y]) rfl (ev_var rfl) ev_int) ev_int)) (fun hb => ?_) fun hb => ?_) rfl
    · rw [decide_eq_true_eq] at hb
      refine EvP.to (ev_tup1 (ea_cons (ev_var rfl) (ea_cons (ev_var rfl) ea_nil)) (show 2 ≤ 1000 by decide)) ?_
      show _ = D.tup [.int ((endsOf n.ws (i, y)).1 : Int), .int ((endsOf n.ws (i, y)).2 : Int)]
      unfold endsOf
      rw [if_pos (show (i, y).2 = 1 from hb)]
    · rw [decide_eq_false_iff_not] at hb
      refine EvP.to (ev_tup1 (ea_cons (ev_var rfl) (ea_cons (ev_var rfl) ea_nil)) (show 2 ≤ 1000 by decide)) ?_
      show _ = D.tup [.int ((endsOf n.ws (i, y)).1 : Int), .int ((endsOf n.ws (i, y)).2 : Int)]
      unfold endsOf
      rw [if_neg (show ¬ (i, y).2 = 1 from hb)]
theorem atI_lastK (s : Nat) (ks : List Nat) : atI ((s :: ks).map fun (k : Nat) => D.int (k : Int)) (-1) = some (.int (lastK s ks : Int)) := by
  have : ∃ l, (s :: ks).map (fun (k : Nat) => D.int (k : Int)) = l ++ [.int (lastK s ks : Int)] := by
    induction ks generalizing s with
    | nil => exact ⟨[], rfl⟩
    | cons x ks ih =>
      obtain ⟨l, h⟩ := ih x
      exact ⟨.int (s : Int) :: l, by rw [List.map_cons, h]; rfl⟩
  obtain ⟨l, h⟩ := this
  rw [h]
  exact atI_last l _
theorem wayK_len (ws : List Wi) : ∀ (l : List (Nat × Int)) (c : Nat) (ks : List Nat), wayK ws l c = some ks → ks.length = l.length
  | [], _, ks, h => by cases h; rfl
  | p :: l, c, ks, h => by
    have h' : (if (endsOf ws p).1 = c then (wayK ws l (endsOf ws p).2).map ((endsOf ws p).2 :: ·) else none) = some ks := h
    split at h'
    · cases z : wayK ws l (endsOf ws p).2 with
      | none => rw [z] at h'; cases h'
      | some k2 =>
        rw [z] at h'
        cases h'
        rw [List.length_cons, List.length_cons, wayK_len ws l _ k2 z]
    · cases h'
theorem ok_knots_of_way (B : Bf mg) (C_knots_of_step : Cal P w K mg base CX0 3 "knots_of_step" ["net", "step"] (spKStep CN)) (g : mg "knots_of_way" = some (.ref f)) (F : FnP K "knots_of_way" s_knots_of_way f fd) : Cal P w K mg base CX0 4 "knots_of_way" ["net", "steps", "start"] (spKWay CN) := by
  refine cal_mk g F (fun _ _ _ _ _ _ us hl => match us, hl with | [_, _, _], _ => rfl) (fn_N _ _ _ F sc_knots_of_way (fun _ => rfl) fun cdv A outer s H E hr z hz => ?_)
  obtain ⟨n, st, s0⟩ := z
  obtain ⟨hst, hlen⟩ := hz
  replace hlen : st.length ≤ 500 := hlen
  refine ⟨_, (pss_cons (ps_set (i := 3) sc_knots_of_way.nd rfl (by first | exact Or.inl rfl | exact Or.inr rfl) (pe_lst (pa_cons (pv 2) pa_nil))) (pss_cons (ps_for PassesOwn.never rfl (pi_tup (pv 1)) (pg_name (i := 4) sc_knots_of_way.nd rfl (by first | exact Or.inl rfl | exact Or.inr rfl)) (pss_cons (ps_asg (pe_own C_knots_of_step (hr.mono (by decide)) rfl pass0 (pa_cons (pv 0) (pa_cons (pv 4) pa_nil))) (pg_tup rfl (pgs_cons (pg_name (i := 5) sc_knots_of_way.nd rfl (by first | exact Or.inl rfl | exact Or.inr rfl)) (pgs_cons (pg_name (i := 6) sc_knots_of_way.nd rfl (by first | exact Or.inl rfl | exact Or.inr rfl)) pgs_nil)))) (pss_cons (ps_if (pt_cmpR op_ne (pv 5) (pe_ix ix_list (pv 3) (pe_un un_neg pe_int) (fun _ _ => rfl)) (nomark _)) (pss_one (ps_ret pe_non)) pss_nil) (pss_one (ps_expr (pe_bm PySem.F.plainAttrs_list PySem.F.slot_list_append PySem.F.type_list_append mt_append (pv 3) (pa_cons (pv 6) pa_nil))))))) (pss_one (ps_ret (pv 3))))), fun U => ?_⟩
  refine sv_new (ef_lst (PA := Is [.int (s0 : Int)]) (ea_cons (ev_var rfl) ea_nil) (fun ds e => by rw [show ds = _ from e]; exact Nat.le_of_ble_eq_true rfl)) fun p c fr hc => ?_
  obtain ⟨ds, rfl, e⟩ := hc
  rw [show ds = _ from e]
  refine sv_seq (N1 := fun ρ' μ' => ∃ ks x y z, wayK n.ws st s0 = some ks ∧ μ' = [.ml ((s0 :: ks).map fun (k : Nat) => D.int (k : Int))] ∧ ρ' = [.d n.d, .d (stepsD st), .d (.int (s0 : Int)), .c 0, x, y, z])
    (sv_for (ds := st.map stD) (fun i ρ' μ' => ∃ ks x y z, wayK n.ws (st.take i) s0 = some ks ∧ μ' = [.ml ((s0 :: ks).map fun (k : Nat) => D.int (k : Int))] ∧ ρ' = [.d n.d, .d (stepsD st), .d (.int (s0 : Int)), .c 0, x, y, z])
      (iv_tup (ev_var rfl)) ⟨[], _, _, _, rfl, rfl, rfl⟩ (fun i d ρ' μ' hd inv => ?_) fun ρ' μ' h => ?_) fun ρ' μ' h => ?_
  · obtain ⟨ks, x, y, z, hks, rfl, rfl⟩ := inv
    obtain ⟨q, hq, rfl⟩ := getMap hd
    have htake : st.take (i + 1) = st.take i ++ [q] := by
      rw [List.take_add_one, hq]
      rfl
    have hsn := wayK_snoc n.ws q (st.take i) s0
    rw [hks, ← htake] at hsn
    have hi : i < st.length := (List.getElem?_eq_some_iff.mp hq).1
    refine gv_name (sv_seq (N1 := fun ρ' μ' => μ' = [.ml ((s0 :: ks).map fun (k : Nat) => D.int (k : Int))] ∧ ρ' = [.d n.d, .d (stepsD st), .d (.int (s0 : Int)), .c 0, .d (stD q), .d (.int ((endsOf n.ws q).1 : Int)), .d (.int ((endsOf n.ws q).2 : Int))]) (sv_asg (P := Is _) (ev_callG (n, q) (ea_cons (ev_var rfl) (ea_cons (ev_var rfl) ea_nil)) (hst q (List.mem_of_getElem? hq))) fun d hd => ?_) fun ρ' μ' h => ?_)
    · rw [show d = _ from hd]
      refine (gv_tup rfl (gs_cons (gv_name (gs_cons (gv_name (gs_nil ?_))))))
      exact ⟨rfl, rfl⟩
    · obtain ⟨rfl, rfl⟩ := h
      refine sv_guard (b := !decide (((endsOf n.ws q).1 : Int) = (lastK s0 ks : Int))) (eb_T (ev_neI (ev_var rfl) (ev_ixC (j := 0) (k := -1) rfl rfl (atI_lastK s0 ks) (ev_un ev_int)))) (fun hb => ?_) fun hb => ?_
      · rw [Bool.not_eq_true', decide_eq_false_iff_not] at hb
        refine sv_ret1 ev_non ?_
        have hnone : wayK n.ws (st.take (i + 1)) s0 = none := by
          rw [hsn]
          show (if (endsOf n.ws q).1 = lastK s0 ks then _ else none) = none
          rw [if_neg (by omega)]
        have := wayK_none n.ws (st.take (i + 1)) (st.drop (i + 1)) s0 hnone
        rw [List.take_append_drop] at this
        show D.non = wayD s0 (wayK n.ws st s0)
        rw [this]
        rfl
      · rw [Bool.not_eq_false', decide_eq_true_eq] at hb
        have hl2 := wayK_len n.ws _ _ _ hks
        rw [List.length_take] at hl2
        refine sv_app (j := 0) (P := Is (.int ((endsOf n.ws q).2 : Int))) rfl rfl (by rw [List.length_map, List.length_cons]; omega) (ev_var rfl) fun d e => ⟨ks ++ [(endsOf n.ws q).2], .d (stD q), .d (.int ((endsOf n.ws q).1 : Int)), .d (.int ((endsOf n.ws q).2 : Int)), ?_, ?_, rfl⟩
        · rw [hsn]
          show (if (endsOf n.ws q).1 = lastK s0 ks then some (ks ++ [(endsOf n.ws q).2]) else none) = _
          rw [if_pos (by omega)]
        · rw [show d = _ from e, ← List.cons_append, List.map_append]
          rfl
  · rw [List.length_map, List.take_length] at h
    exact h
  · obtain ⟨ks, x, y, z, hks, rfl, rfl⟩ := h
    refine sv_frz (μ := []) (c := .ml _) [3] (i := 3) fr (sv_ret1 (ev_var rfl) ?_)
    show D.lst _ = wayD s0 (wayK n.ws st s0)
    rw [hks]
    rfl
def lowsO (rs : List Rg) (st : List (Nat × Int)) : List (Option Int) := (st.filter fun p => decide (p.2 = 1)).map fun p => (rangeAt rs p.1).1
def highsO (rs : List Rg) (st : List (Nat × Int)) : List (Option Int) := (st.filter fun p => decide (p.2 = -1)).map fun p => (rangeAt rs p.1).2
def osum (l : List (Option Int)) : Int := (l.map fun o => o.getD 0).sum
theorem lenOf_eq (rs : List Rg) : ∀ {k : Nat} {st : List (Nat × Int)}, (∀ p ∈ st, StepIn k p) → lenOf rs st = if ((lowsO rs st).any Option.isNone || (highsO rs st).any Option.isNone) = true then none else some (osum (highsO rs st) - osum (lowsO rs st))
  | _, [], _ => rfl
  | k, (i, y) :: st, h => by
    have ih := lenOf_eq rs (k := k) (st := st) fun p hp => h p (List.mem_cons_of_mem _ hp)
    have hy : y = 1 ∨ y = -1 := (h (i, y) List.mem_cons_self).2
    show (match stepLen rs (i, y), lenOf rs st with | some x, some z => some (x + z) | _, _ => none) = _
    rw [ih]
    rcases hy with rfl | rfl
    · have e1 : lowsO rs ((i, 1) :: st) = (rangeAt rs i).1 :: lowsO rs st := rfl
      have e2 : highsO rs ((i, 1) :: st) = highsO rs st := rfl
      rw [e1, e2]
      have e3 : stepLen rs (i, 1) = (rangeAt rs i).1.map (- ·) := rfl
      rw [e3]
      cases (rangeAt rs i).1 with
      | none => rfl
      | some x =>
        show (match some (-x), (if ((lowsO rs st).any Option.isNone || (highsO rs st).any Option.isNone) = true then none else some (osum (highsO rs st) - osum (lowsO rs st))) with | some x, some z => some (x + z) | _, _ => none) = if ((false || (lowsO rs st).any Option.isNone) || (highsO rs st).any Option.isNone) = true then none else some (osum (highsO rs st) - osum (some x :: lowsO rs st))
        rw [Bool.false_or]
        by_cases q : ((lowsO rs st).any Option.isNone || (highsO rs st).any Option.isNone) = true
        · rw [if_pos q, if_pos q]
        · rw [if_neg q, if_neg q]
          show some (-x + (osum (highsO rs st) - osum (lowsO rs st))) = some (osum (highsO rs st) - (x + osum (lowsO rs st)))
          congr 1
          omega
    · have e1 : lowsO rs ((i, -1) :: st) = lowsO rs st := rfl
      have e2 : highsO rs ((i, -1) :: st) = (rangeAt rs i).2 :: highsO rs st := rfl
      rw [e1, e2]
      have e3 : stepLen rs (i, -1) = (rangeAt rs i).2 := rfl
      rw [e3]
      cases (rangeAt rs i).2 with
      | none =>
        show none = if ((lowsO rs st).any Option.isNone || (true || (highsO rs st).any Option.isNone)) = true then none else _
        rw [Bool.true_or, Bool.or_true, if_pos rfl]
      | some x =>
        show (match some x, (if ((lowsO rs st).any Option.isNone || (highsO rs st).any Option.isNone) = true then none else some (osum (highsO rs st) - osum (lowsO rs st))) with | some x, some z => some (x + z) | _, _ => none) = if ((lowsO rs st).any Option.isNone || (false || (highsO rs st).any Option.isNone)) = true then none else some (osum (some x :: highsO rs st) - osum (lowsO rs st))
        rw [Bool.false_or]
        by_cases q : ((lowsO rs st).any Option.isNone || (highsO rs st).any Option.isNone) = true
        · rw [if_pos q, if_pos q]
        · rw [if_neg q, if_neg q]
          show some (x + (osum (highsO rs st) - osum (lowsO rs st))) = some ((x + osum (highsO rs st)) - osum (lowsO rs st))
          congr 1
          omega
theorem anyNon (l : List (Option Int)) : (l.map oD).any (fun d => d.eqS .non) = l.any Option.isNone := by
  rw [List.any_map]
  congr 1
  funext o
  cases o <;> rfl
theorem allInts : ∀ {l : List (Option Int)}, l.any Option.isNone = false → l.map oD = (l.map fun o => o.getD 0).map D.int
  | [], _ => rfl
  | o :: l, h => by
    rw [List.any_cons, Bool.or_eq_false_iff] at h
    rw [List.map_cons, List.map_cons, List.map_cons, allInts h.2]
    cases o with
    | none => cases h.1
    | some x => rfl
theorem allFlat (l : List (Option Int)) : (l.map oD).all D.flat = true := by
  rw [List.all_map, List.all_eq_true]
  exact fun o _ => flat_oD o
theorem filt_st (st : List (Nat × Int)) (b : Nat × Int → Bool) (h : Nat × Int → D) : ((st.map stD).filter fun d => b (unStep d)).map (fun d => h (unStep d)) = (st.filter b).map h := by
  have hu : ∀ p, unStep (stD p) = p := fun p => by
    show (((p.1 : Int)).toNat, p.2) = p
    rw [Int.toNat_natCast]
  induction st with
  | nil => rfl
  | cons p st ih =>
    rw [List.map_cons, List.filter_cons, List.filter_cons, hu]
    split
    · rw [List.map_cons, List.map_cons, ih, hu]
    · exact ih
theorem ok_length_of (B : Bf mg) (g : mg "length_of" = some (.ref f)) (F : FnP K "length_of" s_length_of f fd) : Cal P w K mg base CX0 1 "length_of" ["ranges", "steps"] (spLen CN) := by
  refine cal_mk g F (fun _ _ _ _ _ _ us hl => match us, hl with | [_, _], _ => rfl) (fn_N _ _ _ F sc_length_of (fun _ => rfl) fun cdv A outer s H E hr z hz => ?_)
  obtain ⟨rs, st⟩ := z
  obtain ⟨hst, hlen⟩ := hz
  replace hlen : st.length ≤ 500 := hlen
  replace hst : ∀ p ∈ st, StepIn rs.length p := hst
  refine ⟨_, (pss_cons (ps_setLc (i := 2) (own := [("wire", 4), ("way", 5)]) (g := (gTup _ 2 (gCons (gName 4) (gCons (gName 5) gNil)))) rfl sc_length_of.nd rfl rfl (sw_true rfl rfl rfl (by decide +kernel)) (pi_tup (pv 1)) (blkOk_by (own := [("wire", 4), ("way", 5)]) (N := n_length_of) (sc := defScope s_length_of) (by decide +kernel)) (fun _ _ _ _ _ => (pg_tup rfl (pgs_cons (pg_name (i := 4) sc_length_of.nd rfl (by first | exact Or.inl rfl | exact Or.inr rfl)) (pgs_cons (pg_name (i := 5) sc_length_of.nd rfl (by first | exact Or.inl rfl | exact Or.inr rfl)) pgs_nil)))) (fun _ _ _ _ _ => (pts_one (pt_cmpR op_eq (pv 5) (pe_gint B.c_FORWARD) (nomark _)))) (fun _ _ _ _ _ => (pe_ix (ix_tupK (K := K) rfl) (pe_ix (ix_tupK (K := K) rfl) (pv 0) (pv 4) (fun _ _ => rfl)) pe_int (fun _ _ => rfl)))) (pss_cons (ps_setLc (i := 3) (own := [("wire", 4), ("way", 5)]) (g := (gTup _ 2 (gCons (gName 4) (gCons (gName 5) gNil)))) rfl sc_length_of.nd rfl rfl (sw_true rfl rfl rfl (by decide +kernel)) (pi_tup (pv 1)) (blkOk_by (own := [("wire", 4), ("way", 5)]) (N := n_length_of) (sc := defScope s_length_of) (by decide +kernel)) (fun _ _ _ _ _ => (pg_tup rfl (pgs_cons (pg_name (i := 4) sc_length_of.nd rfl (by first | exact Or.inl rfl | exact Or.inr rfl)) (pgs_cons (pg_name (i := 5) sc_length_of.nd rfl (by first | exact Or.inl rfl | exact Or.inr rfl)) pgs_nil)))) (fun _ _ _ _ _ => (pts_one (pt_cmpR op_eq (pv 5) (pe_gint B.c_BACK) (nomark _)))) (fun _ _ _ _ _ => (pe_ix (ix_tupK (K := K) rfl) (pe_ix (ix_tupK (K := K) rfl) (pv 0) (pv 4) (fun _ _ => rfl)) pe_int (fun _ _ => rfl)))) (pss_one (ps_ret (pe_ifExp (PW.pt (pw_and (pt_cmpR op_notIn_seq pe_non (pv 2) (by rfl)) (pw_and1 (pt_cmpR op_notIn_seq pe_non (pv 3) (by rfl))))) (pe_op op_sub (pe_sum rfl B.b_sum (pv 3)) (pe_sum rfl B.b_sum (pv 2))) pe_non))))), fun U => ?_⟩
  have hlm : (st.map stD).length < 1000 := by
    rw [List.length_map]
    omega
  have hu : ∀ p, unStep (stD p) = p := fun p => by
    show (((p.1 : Int)).toNat, p.2) = p
    rw [Int.toNat_natCast]
  refine sv_let1 (d := .lst ((lowsO rs st).map oD)) (EvP.to (ev_filt (f := fun d => oD (rangeAt rs (unStep d).1).1) (b := fun d => decide ((unStep d).2 = 1)) (iv_tup (ds := st.map stD) (ev_var rfl)) (wp_tup (wps_cons (wp_name (by decide)) (wps_cons (wp_name (by decide)) wps_nil))) hlm fun i d p acc hd => ?_) (congrArg D.lst ?_)) ?_
  · obtain ⟨q, hq, rfl⟩ := getMap hd
    have hin := hst q (List.mem_of_getElem? hq)
    rw [hu]
    refine (gv_tup rfl (gs_cons (gv_name (gs_cons (gv_name (gs_nil ?_))))))
    refine ⟨rfl, eb_T (ev_eqI (ev_var rfl) ev_int), fun _ => ev_ixT (i := 0) (ds := [oD (rangeAt rs q.1).1, oD (rangeAt rs q.1).2]) rfl (ev_ixT (i := (q.1 : Int)) (ds := rs.map rgD) (atI_nat (by rw [List.getElem?_map, rangeAt_get hin.1]; rfl)) (ev_var rfl) (ev_var rfl)) ev_int⟩
  · unfold lowsO
    rw [List.map_map]
    exact filt_st st (fun p => decide (p.2 = 1)) fun p => oD (rangeAt rs p.1).1
  refine sv_let1 (d := .lst ((highsO rs st).map oD)) (EvP.to (ev_filt (f := fun d => oD (rangeAt rs (unStep d).1).2) (b := fun d => decide ((unStep d).2 = -1)) (iv_tup (ds := st.map stD) (ev_var rfl)) (wp_tup (wps_cons (wp_name (by decide)) (wps_cons (wp_name (by decide)) wps_nil))) hlm fun i d p acc hd => ?_) (congrArg D.lst ?_)) ?_
  · obtain ⟨q, hq, rfl⟩ := getMap hd
    have hin := hst q (List.mem_of_getElem? hq)
    rw [hu]
    refine (gv_tup rfl (gs_cons (gv_name (gs_cons (gv_name (gs_nil ?_))))))
    refine ⟨rfl, eb_T (ev_eqI (ev_var rfl) ev_int), fun _ => ev_ixT (i := 1) (ds := [oD (rangeAt rs q.1).1, oD (rangeAt rs q.1).2]) rfl (ev_ixT (i := (q.1 : Int)) (ds := rs.map rgD) (atI_nat (by rw [List.getElem?_map, rangeAt_get hin.1]; rfl)) (ev_var rfl) (ev_var rfl)) ev_int⟩
  · unfold highsO
    rw [List.map_map]
    exact filt_st st (fun p => decide (p.2 = -1)) fun p => oD (rangeAt rs p.1).2
  refine sv_ret1 (ev_if (b := !((lowsO rs st).any Option.isNone) && !((highsO rs st).any Option.isNone)) (EvB.to (eb_and (eb_T (ev_op1 ev_non (ev_var rfl) (od_in (.inr rfl) rfl (allFlat _)))) fun _ => eb_T (ev_op1 ev_non (ev_var rfl) (od_in (.inr rfl) rfl (allFlat _)))) ?_) (fun hb => ?_) fun hb => ?_) (congrArg oD (lenOf_eq rs hst).symm)
  · show (!(((lowsO rs st).map oD).any fun d => d.eqS .non) && !(((highsO rs st).map oD).any fun d => d.eqS .non)) = _
    rw [anyNon, anyNon]
  · rw [Bool.and_eq_true, Bool.not_eq_true', Bool.not_eq_true'] at hb
    rw [hb.1, hb.2]
    refine EvP.to (ev_sub (i := osum (highsO rs st)) (j := osum (lowsO rs st)) (ev_sum (ns := (highsO rs st).map fun o => o.getD 0) (ev_var (by rw [allInts hb.1, allInts hb.2]; rfl))) (ev_sum (ns := (lowsO rs st).map fun o => o.getD 0) (ev_var (by rw [allInts hb.1, allInts hb.2]; rfl)))) rfl
  · have : ((lowsO rs st).any Option.isNone || (highsO rs st).any Option.isNone) = true := by
      cases q1 : (lowsO rs st).any Option.isNone <;> cases q2 : (highsO rs st).any Option.isNone <;> rw [q1, q2] at hb <;> first | rfl | cases hb
    rw [if_pos this]
    exact ev_non
theorem nodup_cast (l : List Nat) : decide (l.map fun (k : Nat) => (k : Int)).Nodup = decide l.Nodup := by
  have : (l.map fun (k : Nat) => (k : Int)).Nodup ↔ l.Nodup := by
    induction l with
    | nil => exact ⟨fun _ => List.nodup_nil, fun _ => List.nodup_nil⟩
    | cons a l ih =>
      rw [List.map_cons, List.nodup_cons, List.nodup_cons, ih]
      have : (a : Int) ∈ l.map (fun (k : Nat) => (k : Int)) ↔ a ∈ l := by
        rw [List.mem_map]
        exact ⟨fun ⟨b, h1, h2⟩ => by
          have : b = a := by omega
          rw [← this]; exact h1, fun h => ⟨a, h, rfl⟩⟩
      rw [this]
  by_cases h : l.Nodup
  · rw [decide_eq_true h, decide_eq_true (this.mpr h)]
  · rw [decide_eq_false h, decide_eq_false (fun z => h (this.mp z))]
theorem ok_is_way (B : Bf mg) (C_are_steps : Cal P w K mg base CX0 3 "are_steps" ["net", "value"] (spAreSteps CN)) (C_knots_of_way : Cal P w K mg base CX0 4 "knots_of_way" ["net", "steps", "start"] (spKWay CN)) (g : mg "is_way" = some (.ref f)) (F : FnP K "is_way" s_is_way f fd) : Cal P w K mg base CX0 5 "is_way" ["net", "start", "goal", "value"] (spIsWay CN) := by
  refine cal_mk g F (fun _ _ _ _ _ _ us hl => match us, hl with | [_, _, _, _], _ => rfl) (fn_N _ _ _ F sc_is_way (fun _ => rfl) fun cdv A outer s H E hr z hz => ?_)
  obtain ⟨n, s0, g0, v⟩ := z
  obtain ⟨hn, hv⟩ := hz
  replace hv : v.vl = true := hv
  refine ⟨_, (pss_cons (ps_if (pt_not (pt_val (pe_own C_are_steps (hr.mono (by decide)) rfl pass0 (pa_cons (pv 0) (pa_cons (pv 3) pa_nil))))) (pss_one (ps_ret pe_bl)) pss_nil) (pss_cons (ps_set (i := 4) sc_is_way.nd rfl (by first | exact Or.inl rfl | exact Or.inr rfl) (pe_own C_knots_of_way (hr.mono (by decide)) rfl pass0 (pa_cons (pv 0) (pa_cons (pv 3) (pa_cons (pv 1) pa_nil))))) (pss_one (ps_ret (pe_and (pe_cmp (pc_notN (pv 4))) (pe_and (pe_cmpR op_eq (pe_ix ix_list (pv 4) (pe_un un_neg pe_int) (fun _ _ => rfl)) (pv 2) (nomark _)) (pe_one (pe_cmpR op_eq (pe_lenset rfl B.b_len B.b_set (pv 4)) (pe_len B.b_len (pv 4)) (nomark _))))))))), fun U => ?_⟩
  refine sv_guard (b := !areSteps n.ws.length v) (eb_not (eb_B (ev_callG (n, v) (ea_cons (ev_var rfl) (ea_cons (ev_var rfl) ea_nil)) ⟨hn, hv⟩))) (fun hb => ?_) fun hb => ?_
  · rw [Bool.not_eq_true'] at hb
    refine sv_ret1 ev_bl ?_
    show D.bl false = D.bl (areSteps n.ws.length v && _)
    rw [hb]
    rfl
  · rw [Bool.not_eq_false'] at hb
    obtain ⟨st, rfl, hst⟩ := areSteps_is hb
    have hl : st.length ≤ 500 := by
      have := (vl_tup hv).1
      rw [List.length_map] at this
      exact this
    refine sv_let1 (ev_callG (KWay.mk n st s0) (ea_cons (ev_var rfl) (ea_cons (ev_var rfl) (ea_cons (ev_var rfl) ea_nil))) ⟨hst, hl⟩) ?_
    have hres : (areSteps n.ws.length (stepsD st) && isWay n.ws s0 g0 (unSteps (stepsD st))) = isWay n.ws s0 g0 st := by
      rw [hb, unSteps_st]
      rfl
    refine sv_ret1 (d := .bl (isWay n.ws s0 g0 st)) ?_ (congrArg D.bl hres.symm)
    show EvP _ _ [.d n.d, .d (.int (s0 : Int)), .d (.int (g0 : Int)), .d (stepsD st), .d (wayD s0 (wayK n.ws st s0))] _ _
    unfold isWay
    cases hk : wayK n.ws st s0 with
    | none => exact EvP.to (ev_andV (a := false) (b := true) (ev_notN (x := .non) (ev_var rfl)) fun h => nomatch h) rfl
    | some ks =>
      have hlk := wayK_len n.ws _ _ _ hk
      refine EvP.to (ev_andV (a := true) (ev_notN (x := wayD s0 (some ks)) (ev_var rfl)) fun _ => ev_andV (ev_eqI (ev_ixL (i := -1) (d := .int (lastK s0 ks : Int)) (atI_lastK s0 ks) (ev_var rfl) (ev_un ev_int)) (ev_var rfl)) fun _ => ev_eqI (ev_lenset (ns := (s0 :: ks).map fun (k : Nat) => (k : Int)) (by rw [List.length_map, List.length_cons]; omega) (EvP.to (ev_var rfl) (by show D.lst _ = _; rw [List.map_map]; rfl))) (ev_lenL (ds := (s0 :: ks).map fun (k : Nat) => D.int (k : Int)) (ev_var rfl))) (congrArg D.bl ?_)
      show (decide ((lastK s0 ks : Int) = (g0 : Int)) && decide (((dd ((s0 :: ks).map fun (k : Nat) => (k : Int))).length : Int) = (((s0 :: ks).map fun (k : Nat) => D.int (k : Int)).length : Int))) = (decide (lastK s0 ks = g0) && decide (s0 :: ks).Nodup)
      rw [← nodup_cast, ← dd_iff, List.length_map, List.length_map]
      congr 1
      exact decide_eq_decide.mpr ⟨fun h => by omega, fun h => by omega⟩
end
end RN
end

section
set_option Elab.async false
set_option linter.all false
set_option maxRecDepth 100000
set_option maxHeartbeats 4000000
set_option autoImplicit false
/-! RN_W9: lots of knots, is_farthest_in, ranges. -/
namespace RN
open PySem PySem.Spec L2
def ltPair : D → Bool
  | .tup [.int a, .int b] => decide (a < b)
  | _ => false
theorem knotIn_is {k : Nat} {d : D} (h : knotIn k d = true) : ∃ i : Nat, d = .int (i : Int) ∧ i < k := by
  unfold knotIn at h
  split at h
  · rename_i i
    rw [Bool.and_eq_true, decide_eq_true_eq, decide_eq_true_eq] at h
    exact ⟨i.toNat, by rw [Int.toNat_of_nonneg h.1], by omega⟩
  · cases h
theorem lots_is {k : Nat} : ∀ {ds : List D}, ds.all (knotIn k) = true → ∃ l : List Nat, ds = l.map (fun (i : Nat) => D.int (i : Int)) ∧ ∀ i ∈ l, i < k
  | [], _ => ⟨[], rfl, fun i h => absurd h List.not_mem_nil⟩
  | d :: ds, h => by
    rw [List.all_cons, Bool.and_eq_true] at h
    obtain ⟨i, rfl, hi⟩ := knotIn_is h.1
    obtain ⟨l, rfl, hl⟩ := lots_is h.2
    exact ⟨i :: l, rfl, fun j hj => (List.mem_cons.mp hj).elim (fun e => by rw [e]; exact hi) (hl j)⟩
theorem rises_zip : ∀ (l : List Nat), (zipD (l.map fun (i : Nat) => D.int (i : Int)) ((l.map fun (i : Nat) => D.int (i : Int)).drop 1)).all ltPair = risesD (l.map fun (i : Nat) => D.int (i : Int))
  | [] => rfl
  | [a] => rfl
  | a :: b :: r => by
    show (decide ((a : Int) < (b : Int)) && (zipD ((b :: r).map fun (i : Nat) => D.int (i : Int)) (((b :: r).map fun (i : Nat) => D.int (i : Int)).drop 1)).all ltPair) = (decide ((a : Int) < (b : Int)) && risesD ((b :: r).map fun (i : Nat) => D.int (i : Int)))
    rw [rises_zip (b :: r)]
abbrev spIsLot (CN : Addr) : Sp := spG (α := NetD × D) CN (fun z => [z.1.d, z.2]) (fun z => z.1.ok ∧ z.2.vl = true) fun z => .bl (isLot z.1.k z.2)
structure Rise where
  n : NetD
  rs : List Rg
  l : List Nat
def lotL (l : List Nat) : List D := l.map fun (i : Nat) => D.int (i : Int)
abbrev spCanRise (CN : Addr) : Sp := spG (α := Rise) CN (fun z => [z.n.d, rsD z.rs, .tup (lotL z.l)]) (fun z => NR (z.n, z.rs)) fun z => .bl (canRise z.n.ws z.rs (lotL z.l))
structure FarV where
  a : FarA
  v : D
abbrev FarV.x (z : FarV) : Option Int := fwAll z.a.n.k (Lks z.a.n z.a.rs) z.a.s z.a.g
def FarV.res (z : FarV) : Bool := isFar z.a.n.ws z.a.rs z.a.n.k z.a.s z.a.g z.x z.v
abbrev spIsFar (CN : Addr) : Sp := spG (α := FarV) CN (fun z => z.a.enc ++ [z.v]) (fun z => z.a.ok ∧ z.v.vl = true) fun z => .bl z.res
def rgOk (r : Rg) : Prop := (∀ lo, r.1 = some lo → -(10 ^ 60) < lo ∧ lo < 10 ^ 60) ∧ (∀ hi, r.2 = some hi → -(10 ^ 60) < hi ∧ hi < 10 ^ 60) ∧ ∀ lo hi, r.1 = some lo → r.2 = some hi → lo ≤ hi
abbrev spIsRange (CN : Addr) : Sp := spG (α := Rg) CN (fun r => [rgD r]) rgOk fun _ => .bl true
abbrev spReqRanges (CN : Addr) : Sp := spG (α := NetD × List Rg) CN (fun z => [z.1.d, rsD z.2]) (fun z => NR z ∧ ∀ r ∈ z.2, rgOk r) fun _ => .non
section
variable {P : Program} {w : World} {K : PySem.W.Frag} {mg : Str → Option Value} {base : Heap} {CN CP : Addr} {f : Addr} {fd : FuncData}
theorem ok_is_lot_of_knots (B : Bf mg) (NF : NetF K CN CP) (C_is_whole : Cal P w K mg base CX0 1 "is_whole" ["value"] (spWhole CN)) (C_knots : Prp P w K mg base CN 1 "knots" (spKnots CN)) (g : mg "is_lot_of_knots" = some (.ref f)) (F : FnP K "is_lot_of_knots" s_is_lot_of_knots f fd) : Cal P w K mg base CX0 3 "is_lot_of_knots" ["net", "value"] (spIsLot CN) := by
  refine cal_mk g F (fun _ _ _ _ _ _ us hl => match us, hl with | [_, _], _ => rfl) (fn_N _ _ _ F sc_is_lot_of_knots (fun _ => rfl) fun cdv A outer s H E hr z hz => ?_)
  obtain ⟨n, v⟩ := z
  obtain ⟨hn, hv⟩ := hz
  replace hv : v.vl = true := hv
  refine ⟨_, (pss_cons (ps_if (PW.pt (pw_or (pt_not (pt_val (pe_isi B.b_isinstance (pv 1) (pe_tyn (n := "tuple") B.b_tuple PyProof.Rows.boot_tuple)))) (pw_or1 (pt_not (pt_val (pe_all rfl B.b_all (pe_lc (own := [("knot", 4)]) (g := (gName 4)) rfl sc_is_lot_of_knots.nd (pi_tup (pv 1)) (blkOk_by (own := [("knot", 4)]) (N := n_is_lot_of_knots) (sc := defScope s_is_lot_of_knots) (by decide +kernel)) (fun _ _ _ _ _ => (pg_name (i := 4) sc_is_lot_of_knots.nd rfl (by first | exact Or.inl rfl | exact Or.inr rfl))) (fun _ _ _ _ _ => pts_nil) (fun _ _ _ _ _ => (pe_and (pe_own C_is_whole (hr.mono (by decide)) rfl pass0 (pa_cons (pv 4) pa_nil)) (pe_one (pe_chain op_le op_lt pe_int (pv 4) (pe_net_prop NF C_knots (hr.mono (by decide)) (pv 0))))))))))))) (pss_one (ps_ret pe_bl)) pss_nil) (pss_one (ps_ret (pe_all rfl B.b_all (pe_lc (own := [("one", 2), ("other", 3)]) (g := (gTup _ 2 (gCons (gName 2) (gCons (gName 3) gNil)))) rfl sc_is_lot_of_knots.nd (RZ.pi_zipA rfl B.b_zip (pa_cons (pv 1) (pa_cons (pe_slice sl_tupA (pv 1) (po_some pe_int) po_none) pa_nil))) (blkOk_by (own := [("one", 2), ("other", 3)]) (N := n_is_lot_of_knots) (sc := defScope s_is_lot_of_knots) (by decide +kernel)) (fun _ _ _ _ _ => (pg_tup rfl (pgs_cons (pg_name (i := 2) sc_is_lot_of_knots.nd rfl (by first | exact Or.inl rfl | exact Or.inr rfl)) (pgs_cons (pg_name (i := 3) sc_is_lot_of_knots.nd rfl (by first | exact Or.inl rfl | exact Or.inr rfl)) pgs_nil)))) (fun _ _ _ _ _ => pts_nil) (fun _ _ _ _ _ => (pe_cmpR op_lt (pv 2) (pv 3) (nomark _)))))))), fun U => ?_⟩
  by_cases hT : ∃ ds, v = .tup ds
  · obtain ⟨ds, rfl⟩ := hT
    obtain ⟨hl, hall⟩ := vl_tup hv
    refine sv_guard (b := !ds.all (knotIn n.k)) (EvB.to (eb_or (a := false) (b := !ds.all (knotIn n.k)) (EvB.to (eb_not (eb_B (ev_isT (ev_var rfl)))) rfl) fun _ => eb_not (eb_B (ev_allM (f := knotIn n.k) (ev_map (f := fun d => .bl (knotIn n.k d)) (iv_tup (ev_var rfl)) (wp_name (by decide)) (by omega) fun i d p acc hd => ?_)))) rfl) (fun hb => ?_) fun hb => ?_
    · have hd' := hall d (List.mem_of_getElem? hd)
      refine gv_name ⟨rfl, EvP.to (ev_andV (a := d.whole) (b := knotIn n.k d) (ev_callG d (ea_cons (ev_var rfl) ea_nil) (vl_pl hd')) fun hw => ?_) ?_⟩
      · obtain ⟨i, rfl⟩ := whole_is hw
        exact ev_chain ev_int (ev_var rfl) (od_I0 fun _ => rfl) (fun _ => ev_propG (k := (n.k : Int)) (wd := wsD n.ws) n (ev_var rfl) rfl trivial) fun _ => od_I0 fun _ => rfl
      · cases d <;> rfl
    · refine sv_ret1 ev_bl ?_
      rw [Bool.not_eq_true'] at hb
      show D.bl false = D.bl (ds.all (knotIn n.k) && risesD ds)
      rw [hb]
      rfl
    · rw [Bool.not_eq_false'] at hb
      obtain ⟨l, rfl, hlk⟩ := lots_is hb
      refine sv_ret1 (EvP.to (ev_allM (f := ltPair) (ev_map (f := fun d => .bl (ltPair d)) (iv_zip (ea_cons (ev_var rfl) (ea_cons (ev_slT (ev_var rfl) (eo_some ev_int) eo_none) ea_nil))) (wp_tup (wps_cons (wp_name (by decide)) (wps_cons (wp_name (by decide)) wps_nil))) ?_ fun i d p acc hd => ?_)) (congrArg D.bl ?_)) rfl
      · unfold zipD
        rw [List.length_map, List.length_zip]
        omega
      · obtain ⟨d1, d2, q1, q2, rfl⟩ := zipD_getV hd
        rw [cut_from1, List.getElem?_drop, Nat.add_comm] at q2
        obtain ⟨a, _, rfl⟩ := getMap q1
        obtain ⟨b, _, rfl⟩ := getMap q2
        refine (gv_tup rfl (gs_cons (gv_name (gs_cons (gv_name (gs_nil ?_))))))
        exact ⟨rfl, ev_lt (ev_var rfl) (ev_var rfl)⟩
      · rw [cut_from1, rises_zip]
        show _ = (((l.map fun (i : Nat) => D.int (i : Int)).all (knotIn n.k)) && risesD (l.map fun (i : Nat) => D.int (i : Int)))
        rw [hb]
        rfl
  · have hnt : v.isT = false := by
      cases v <;> first | rfl | exact absurd ⟨_, rfl⟩ hT
    have hna : isLot n.k v = false := by
      cases v <;> first | rfl | exact absurd ⟨_, rfl⟩ hT
    refine sv_guard (b := true) (EvB.to (eb_or (a := true) (b := true) (EvB.to (eb_not (eb_B (ev_isT (ev_var rfl) (vl_pl hv)))) (by rw [hnt]; rfl)) fun h => nomatch h) rfl) (fun _ => sv_ret1 ev_bl (congrArg D.bl hna.symm)) fun h => nomatch h
theorem lotL_flat (l : List Nat) : (lotL l).all D.flat = true := by
  unfold lotL
  rw [List.all_map, List.all_eq_true]
  exact fun _ _ => rfl
theorem ok_can_rise (B : Bf mg) (NF : NetF K CN CP) (C_wires : Prp P w K mg base CN 1 "wires" (spWires CN)) (g : mg "can_rise" = some (.ref f)) (F : FnP K "can_rise" s_can_rise f fd) : Cal P w K mg base CX0 3 "can_rise" ["net", "ranges", "knots"] (spCanRise CN) := by
  refine cal_mk g F (fun _ _ _ _ _ _ us hl => match us, hl with | [_, _, _], _ => rfl) (fn_N _ _ _ F sc_can_rise (fun _ => rfl) fun cdv A outer s H E hr z hz => ?_)
  obtain ⟨n, rs, l⟩ := z
  obtain ⟨hn, hlen⟩ := hz
  replace hlen : rs.length = n.ws.length := hlen
  refine ⟨_, (pss_cons (ps_for PassesOwn.never rfl (RZ.pi_zipA rfl B.b_zip (pa_cons (pe_net_prop NF C_wires (hr.mono (by decide)) (pv 0)) (pa_cons (pv 1) pa_nil))) (pg_tup rfl (pgs_cons (pg_tup rfl (pgs_cons (pg_name (i := 3) sc_can_rise.nd rfl (by first | exact Or.inl rfl | exact Or.inr rfl)) (pgs_cons (pg_name (i := 4) sc_can_rise.nd rfl (by first | exact Or.inl rfl | exact Or.inr rfl)) (pgs_cons (pg_name (i := 5) sc_can_rise.nd rfl (by first | exact Or.inl rfl | exact Or.inr rfl)) pgs_nil)))) (pgs_cons (pg_tup rfl (pgs_cons (pg_name (i := 6) sc_can_rise.nd rfl (by first | exact Or.inl rfl | exact Or.inr rfl)) (pgs_cons (pg_name (i := 7) sc_can_rise.nd rfl (by first | exact Or.inl rfl | exact Or.inr rfl)) pgs_nil))) pgs_nil))) (pss_cons (ps_if (PW.pt (pw_and (pt_cmpR op_in_seq (pv 3) (pv 2) (by rfl)) (pw_and (pt_cmpR op_notIn_seq (pv 4) (pv 2) (by rfl)) (pw_and1 (pt_cmp (pc_notN (pv 7))))))) (pss_one (ps_ret pe_bl)) pss_nil) (pss_one (ps_if (PW.pt (pw_and (pt_cmpR op_in_seq (pv 4) (pv 2) (by rfl)) (pw_and (pt_cmpR op_notIn_seq (pv 3) (pv 2) (by rfl)) (pw_and1 (pt_cmp (pc_notN (pv 6))))))) (pss_one (ps_ret pe_bl)) pss_nil)))) (pss_one (ps_ret pe_bl))), fun U => ?_⟩
  have hzl : (zipD (n.ws.map Wi.d) (rs.map rgD)).length = n.ws.length := by
    unfold zipD
    rw [List.length_map, List.length_zip, List.length_map, List.length_map, hlen, Nat.min_self]
  refine sv_seq (N1 := fun ρ' μ' => μ' = [] ∧ canRise n.ws rs (lotL l) = true) (sv_for (ds := zipD (n.ws.map Wi.d) (rs.map rgD)) (fun i ρ' μ' => μ' = [] ∧ (∀ j, j < i → (!(inLot (lotL l) (wireAt n.ws j).t && (!inLot (lotL l) (wireAt n.ws j).h && (rangeAt rs j).2.isSome)) && !(inLot (lotL l) (wireAt n.ws j).h && (!inLot (lotL l) (wireAt n.ws j).t && (rangeAt rs j).1.isSome))) = true) ∧
      ∃ a b c d e, ρ' = [.d n.d, .d (rsD rs), .d (.tup (lotL l)), a, b, c, d, e]) (iv_zip (ea_cons (ev_propG (k := (n.k : Int)) (wd := wsD n.ws) n (ev_var rfl) rfl trivial) (ea_cons (ev_var rfl) ea_nil))) ⟨rfl, fun j hj => absurd hj (Nat.not_lt_zero _), _, _, _, _, _, rfl⟩ (fun i d ρ' μ' hd inv => ?_) fun ρ' μ' h => ?_) fun ρ' μ' h => ?_
  · obtain ⟨rfl, hall, a, b, c, d', e, rfl⟩ := inv
    have hi : i < n.ws.length := by
      have := (List.getElem?_eq_some_iff.mp hd).1
      rw [hzl] at this
      exact this
    obtain ⟨d1, d2, q1, q2, rfl⟩ := zipD_getV hd
    rw [List.getElem?_map, wireAt_get hi] at q1
    rw [List.getElem?_map, rangeAt_get (by omega)] at q2
    cases q1
    cases q2
    have memb : ∀ (x : Nat) (neg : Bool), OpD ⟨CN, U, U, [], 0⟩ (rIn K neg) (.int (x : Int)) (.tup (lotL l)) (Is (.bl (if neg then !inLot (lotL l) x else inLot (lotL l) x))) := fun x neg => od_in (.inl rfl) rfl (lotL_flat l)
    have hcan : ∀ b : Bool, canRise n.ws rs (lotL l) = b ∨ True := fun b => .inr trivial
    refine (gv_tup rfl (gs_cons (gv_tup rfl (gs_cons (gv_name (gs_cons (gv_name (gs_cons (gv_name (gs_nil (gs_cons (gv_tup rfl (gs_cons (gv_name (gs_cons (gv_name (gs_nil (gs_nil ?_))))))))))))))))))
    have fin : ∀ {x : Bool}, x = false → (∀ (h : (!(inLot (lotL l) (wireAt n.ws i).t && (!inLot (lotL l) (wireAt n.ws i).h && (rangeAt rs i).2.isSome)) && !(inLot (lotL l) (wireAt n.ws i).h && (!inLot (lotL l) (wireAt n.ws i).t && (rangeAt rs i).1.isSome))) = x), canRise n.ws rs (lotL l) = false) := fun {x} hx h => by
      cases q : canRise n.ws rs (lotL l) with
      | false => rfl
      | true =>
        unfold canRise at q
        have := List.all_eq_true.mp q i (List.mem_range.mpr hi)
        rw [h, hx] at this
        cases this
    refine sv_seq (N1 := fun ρ' μ' => μ' = [] ∧ (inLot (lotL l) (wireAt n.ws i).t && (!inLot (lotL l) (wireAt n.ws i).h && (rangeAt rs i).2.isSome)) = false ∧ ρ' = [.d n.d, .d (rsD rs), .d (.tup (lotL l)), .d (.int ((wireAt n.ws i).t : Int)), .d (.int ((wireAt n.ws i).h : Int)), .d (wireAt n.ws i).r.d, .d (oD (rangeAt rs i).1), .d (oD (rangeAt rs i).2)])
      (sv_if (b := inLot (lotL l) (wireAt n.ws i).t && (!inLot (lotL l) (wireAt n.ws i).h && (rangeAt rs i).2.isSome)) (eb_and (eb_T (ev_op1 (ev_var rfl) (ev_var rfl) (memb _ false))) fun _ => eb_and (eb_T (ev_op1 (ev_var rfl) (ev_var rfl) (memb _ true))) fun _ => EvB.to (eb_B (ev_notN (ev_var rfl))) (by cases (rangeAt rs i).2 <;> rfl)) (fun hb => ?_) fun hb => sv_next ⟨rfl, hb, rfl⟩) fun ρ' μ' h => ?_
    · refine sv_ret1 ev_bl ?_
      have := fin (x := false) rfl (by rw [hb]; rfl)
      exact congrArg D.bl this.symm
    · obtain ⟨rfl, h1, rfl⟩ := h
      refine sv_if (b := inLot (lotL l) (wireAt n.ws i).h && (!inLot (lotL l) (wireAt n.ws i).t && (rangeAt rs i).1.isSome)) (eb_and (eb_T (ev_op1 (ev_var rfl) (ev_var rfl) (memb _ false))) fun _ => eb_and (eb_T (ev_op1 (ev_var rfl) (ev_var rfl) (memb _ true))) fun _ => EvB.to (eb_B (ev_notN (ev_var rfl))) (by cases (rangeAt rs i).1 <;> rfl)) (fun hb => ?_) fun hb => sv_next ⟨rfl, fun j hj => ?_, _, _, _, _, _, rfl⟩
      · refine sv_ret1 ev_bl ?_
        have := fin (x := false) rfl (by rw [hb, h1]; rfl)
        exact congrArg D.bl this.symm
      · by_cases e : j = i
        · subst e
          rw [h1, hb]
          rfl
        · exact hall j (by omega)
  · obtain ⟨rfl, hall, _⟩ := h
    rw [hzl] at hall
    refine ⟨rfl, ?_⟩
    unfold canRise
    exact List.all_eq_true.mpr fun j hj => hall j (List.mem_range.mp hj)
  · obtain ⟨rfl, h⟩ := h
    exact sv_ret1 ev_bl (congrArg D.bl h.symm)
theorem vl_pln : ∀ {d : D}, d.vl = true → d.pln = true := by
  have aux : (∀ d : D, d.vl = true → d.pln = true) := fun d => by
    exact D.rec (motive_1 := fun d => d.vl = true → d.pln = true) (motive_2 := fun ds => vlL ds = true → plnL ds = true) (fun _ => rfl) (fun _ _ => rfl) (fun _ _ => rfl) (fun _ _ => rfl) (fun ds ih h => by
        have h' : (decide (ds.length ≤ 500) && vlL ds) = true := h
        rw [Bool.and_eq_true] at h'
        exact ih h'.2) (fun ds ih h => by
        have h' : (decide (ds.length ≤ 500) && vlL ds) = true := h
        rw [Bool.and_eq_true] at h'
        exact ih h'.2) (fun _ _ _ h => by cases h) (fun _ _ h => by cases h) (fun _ _ h => by cases h) (fun _ h => by cases h) (fun _ h => by cases h) (fun _ => rfl) (fun d ds ih1 ih2 h => by
        have h' : (d.vl && vlL ds) = true := h
        rw [Bool.and_eq_true] at h'
        show (d.pln && plnL ds) = true
        rw [ih1 h'.1, ih2 h'.2]
        rfl) d
  exact fun {d} => aux d
end
end RN
end

section
set_option Elab.async false
set_option linter.all false
set_option maxRecDepth 100000
set_option maxHeartbeats 4000000
set_option autoImplicit false
/-! RN_W10: is_farthest_in, ranges. -/
namespace RN
open PySem PySem.Spec L2
section
variable {W : Wd} {ρ : List Sl} {μ : List Cell} {ta tb : TE}
/-- a length and a number -/
theorem ev_eqO {o : Option Int} {i : Int} (ha : EvP W ta ρ μ (Is (oD o))) (hb : EvP W tb ρ μ (Is (.int i))) : EvP W (tOp rEq ta tb) ρ μ (Is (.bl (decide (o = some i)))) := by
  cases o with
  | none => exact EvP.to (ev_op1 ha hb (od_eq (x := .non) rfl rfl rfl)) rfl
  | some j =>
    refine EvP.to (ev_eqI (i := j) ha hb) (congrArg D.bl (decide_eq_decide.mpr ⟨fun h => by rw [h], fun h => Option.some.inj h⟩))
end
theorem atI0 (a : D) (ds : List D) : atI (a :: ds) 0 = some a := atI_nat (j := 0) rfl
theorem isLot_is {k : Nat} {v : D} (h : isLot k v = true) : ∃ l : List Nat, v = .tup (lotL l) ∧ ∀ i ∈ l, i < k := by
  cases v with
  | tup ds =>
    have h' : (ds.all (knotIn k) && risesD ds) = true := h
    rw [Bool.and_eq_true] at h'
    obtain ⟨l, rfl, hl⟩ := lots_is h'.1
    exact ⟨l, rfl, hl⟩
  | _ => cases h
section
variable {P : Program} {w : World} {K : PySem.W.Frag} {mg : Str → Option Value} {base : Heap} {CN CP : Addr} {f : Addr} {fd : FuncData}
theorem isFar_other {ws : List Wi} {rs : List Rg} {k s g : Nat} {x : Option Int} {ds : List D} {w : Str} (h : ¬ (ds.length = 3 ∧ w = "most") ∧ ¬ (ds.length = 2 ∧ w = "endless")) (h0 : ds[0]? = some (.str w)) : isFar ws rs k s g x (.tup ds) = false := by
  match ds, h0 with
  | [_], h0 => cases h0; rfl
  | [_, b], h0 =>
    cases h0
    show (decide (w = "endless") && _) = false
    rw [decide_eq_false fun e => h.2 ⟨rfl, e⟩]
    rfl
  | [_, b, c], h0 =>
    cases h0
    show (decide (w = "most") && _) = false
    rw [decide_eq_false fun e => h.1 ⟨rfl, e⟩]
    rfl
  | _ :: _ :: _ :: _ :: _, h0 => cases h0; rfl
theorem ok_is_farthest_in (B : Bf mg) (C_is_whole : Cal P w K mg base CX0 1 "is_whole" ["value"] (spWhole CN)) (C_farthest_in : Cal P w K mg base CX0 4 "farthest_in" ["net", "ranges", "start", "goal"] (spFarthest CN)) (C_is_way : Cal P w K mg base CX0 5 "is_way" ["net", "start", "goal", "value"] (spIsWay CN)) (C_length_of : Cal P w K mg base CX0 1 "length_of" ["ranges", "steps"] (spLen CN))
    (C_is_lot_of_knots : Cal P w K mg base CX0 3 "is_lot_of_knots" ["net", "value"] (spIsLot CN)) (C_can_rise : Cal P w K mg base CX0 3 "can_rise" ["net", "ranges", "knots"] (spCanRise CN)) (g : mg "is_farthest_in" = some (.ref f)) (F : FnP K "is_farthest_in" s_is_farthest_in f fd) : Cal P w K mg base CX0 6 "is_farthest_in" ["net", "ranges", "start", "goal", "value"] (spIsFar CN) := by
  refine cal_mk g F (fun _ _ _ _ _ _ us hl => match us, hl with | [_, _, _, _, _], _ => rfl) (fn_N _ _ _ F sc_is_farthest_in (fun _ => rfl) fun cdv A outer s H E hr z hz => ?_)
  obtain ⟨⟨n, rs, st, gl⟩, v⟩ := z
  obtain ⟨ha, hv⟩ := hz
  replace hv : v.vl = true := hv
  have hnr : NR (n, rs) := ha.nr
  have hn : n.ok := hnr.1
  have hlen : rs.length = n.ws.length := hnr.2
  refine ⟨_, (pss_cons (ps_if (PW.pt (pw_or (pt_not (pt_val (pe_isi B.b_isinstance (pv 4) (pe_tyn (n := "tuple") B.b_tuple PyProof.Rows.boot_tuple)))) (pw_or (pt_cmpR (op_eqP hr.units) (pv 4) (pe_tup pa_nil) (nomark _)) (pw_or1 (pt_not (pt_val (pe_isi B.b_isinstance (pe_ix ix_tup (pv 4) pe_int (fun _ _ => rfl)) (pe_tyn (n := "str") B.b_str PyProof.Rows.boot_str)))))))) (pss_one (ps_ret pe_bl)) pss_nil) (pss_cons (ps_if (PW.pt (pw_and (pt_cmpR op_eq (pe_ix ix_tup (pv 4) pe_int (fun _ _ => rfl)) (pe_gstr B.c_MOST) (nomark _)) (pw_and (pt_cmpR op_eq (pe_len B.b_len (pv 4)) (pe_gint B.c_TRIPLE_heights) (nomark _)) (pw_and1 (pt_val (pe_own C_is_whole (hr.mono (by decide)) rfl pass0 (pa_cons (pe_ix ix_tup (pv 4) pe_int (fun _ _ => rfl)) pa_nil))))))) (pss_cons (ps_set (i := 5) sc_is_farthest_in.nd rfl (by first | exact Or.inl rfl | exact Or.inr rfl) (pe_own C_farthest_in (hr.mono (by decide)) rfl pass0 (pa_cons (pv 0) (pa_cons (pv 1) (pa_cons (pv 2) (pa_cons (pv 3) pa_nil)))))) (pss_cons (ps_if (PW.pt (pw_or (pt_cmpR op_ne (pe_ix ix_tup (pv 5) pe_int (fun _ _ => rfl)) (pe_gstr B.c_MOST) (nomark _)) (pw_or (pt_cmpR op_ne (pe_ix ix_tup (pv 5) pe_int (fun _ _ => rfl)) (pe_ix ix_tup (pv 4) pe_int (fun _ _ => rfl)) (nomark _)) (pw_or1 (pt_not (pt_val (pe_own C_is_way (hr.mono (by decide)) rfl pass0 (pa_cons (pv 0) (pa_cons (pv 2) (pa_cons (pv 3) (pa_cons (pe_ix ix_tup (pv 4) pe_int (fun _ _ => rfl)) pa_nil))))))))))) (pss_one (ps_ret pe_bl)) pss_nil) (pss_one (ps_ret (pe_cmpR op_eq (pe_own C_length_of (hr.mono (by decide)) rfl pass0 (pa_cons (pv 1) (pa_cons (pe_ix ix_tup (pv 4) pe_int (fun _ _ => rfl)) pa_nil))) (pe_ix ix_tup (pv 4) pe_int (fun _ _ => rfl)) (nomark _)))))) pss_nil) (pss_cons (ps_if (PW.pt (pw_or (pt_cmpR op_ne (pe_ix ix_tup (pv 4) pe_int (fun _ _ => rfl)) (pe_gstr B.c_ENDLESS) (nomark _)) (pw_or (pt_cmpR op_ne (pe_len B.b_len (pv 4)) (pe_gint B.c_PAIR_heights) (nomark _)) (pw_or1 (pt_not (pt_val (pe_own C_is_lot_of_knots (hr.mono (by decide)) rfl pass0 (pa_cons (pv 0) (pa_cons (pe_ix ix_tup (pv 4) pe_int (fun _ _ => rfl)) pa_nil))))))))) (pss_one (ps_ret pe_bl)) pss_nil) (pss_one (ps_ret (pe_and (pe_cmpR op_in_seq (pv 3) (pe_ix ix_tup (pv 4) pe_int (fun _ _ => rfl)) (by rfl)) (pe_and (pe_cmpR op_notIn_seq (pv 2) (pe_ix ix_tup (pv 4) pe_int (fun _ _ => rfl)) (by rfl)) (pe_one (pe_own C_can_rise (hr.mono (by decide)) rfl pass0 (pa_cons (pv 0) (pa_cons (pv 1) (pa_cons (pe_ix ix_tup (pv 4) pe_int (fun _ _ => rfl)) pa_nil)))))))))))), fun U => ?_⟩
  show SvP _ _ [.d n.d, .d (rsD rs), .d (.int (st : Int)), .d (.int (gl : Int)), .d v, .no] [] _ _
  by_cases hT : ∃ w0 ds, v = .tup (.str w0 :: ds)
  · obtain ⟨w0, ds, rfl⟩ := hT
    obtain ⟨hl, hall⟩ := vl_tup hv
    have e0 : ∀ U, EvP ⟨CN, U, U, [], 0⟩ (tOp (rIxT K) (tVar 4) (tC (.int 0))) [.d n.d, .d (rsD rs), .d (.int (st : Int)), .d (.int (gl : Int)), .d (.tup (.str w0 :: ds)), .no] [] (Is (.str w0)) := fun U => ev_ixT (i := 0) (ds := .str w0 :: ds) (atI0 _ _) (ev_var rfl) ev_int
    refine sv_guard (b := false) (EvB.to (eb_or (a := false) (EvB.to (eb_not (eb_B (ev_isT (ev_var rfl)))) rfl) fun _ => eb_or (a := false) (eb_T (EvP.to (ev_op1 (ev_var rfl) (ev_tup1 ea_nil) (od_eqP (vl_pln hv) rfl (.inr (by decide)))) (congrArg D.bl (eqv_nilT _)))) fun _ => eb_not (eb_B (ev_isS (e0 U)))) rfl) (fun h => nomatch h) fun _ => ?_
    by_cases hm : w0 = "most" ∧ ∃ a b, ds = [a, b] ∧ a.whole = true
    · obtain ⟨rfl, a, b, rfl, hw⟩ := hm
      obtain ⟨j, rfl⟩ := whole_is hw
      have e1 : ∀ U o, EvP ⟨CN, U, U, [], 0⟩ (tOp (rIxT K) (tVar 4) (tC (.int 1))) [.d n.d, .d (rsD rs), .d (.int (st : Int)), .d (.int (gl : Int)), .d (.tup [.str "most", .int j, b]), o] [] (Is (.int j)) := fun U o => ev_ixT (i := 1) (ds := [.str "most", .int j, b]) rfl (ev_var rfl) ev_int
      have e2 : ∀ U o, EvP ⟨CN, U, U, [], 0⟩ (tOp (rIxT K) (tVar 4) (tC (.int 2))) [.d n.d, .d (rsD rs), .d (.int (st : Int)), .d (.int (gl : Int)), .d (.tup [.str "most", .int j, b]), o] [] (Is b) := fun U o => ev_ixT (i := 2) (ds := [.str "most", .int j, b]) rfl (ev_var rfl) ev_int
      have hb : b.vl = true := hall b (by simp)
      refine sv_guard (b := true) (EvB.to (eb_and (a := true) (EvB.to (eb_T (ev_eqS (e0 U) ev_str)) (by decide)) fun _ => eb_and (a := true) (EvB.to (eb_T (ev_eqI (ev_lenT (ds := [.str "most", .int j, b]) (ev_var rfl)) ev_int)) rfl) fun _ => eb_B (ev_callG (D.int j) (ea_cons (e1 U _) ea_nil) rfl)) rfl) (fun _ => ?_) fun h => nomatch h
      refine sv_let (ev_callN (FarA.mk n rs st gl) (ea_cons (ev_var rfl) (ea_cons (ev_var rfl) (ea_cons (ev_var rfl) (ea_cons (ev_var rfl) ea_nil)))) ha fun d h => h) fun told ht => ?_
      obtain ⟨far, ah, ap, ht⟩ := ht
      obtain ⟨π, hπ⟩ := ha.pot
      have hx : fwAll n.k (Lks n rs) st gl = far gl := apart_fw (lks_ok hn) ap ha.s_ hπ
      have hres : FarV.res ⟨⟨n, rs, st, gl⟩, .tup [.str "most", .int j, b]⟩ = isMost n.ws rs st gl (far gl) (.int j) b := by
        show (decide (("most" : Str) = "most") && (true && isMost n.ws rs st gl (fwAll n.k (Lks n rs) st gl) (.int j) b)) = _
        rw [hx, decide_eq_true rfl]
        rfl
      rcases ht with ⟨hnone, rfl⟩ | ⟨x, sts, hsome, rfl, _⟩
      · refine sv_guard (b := true) (EvB.to (eb_or (a := true) (b := true) (EvB.to (eb_T (ev_neS (ev_ixT (i := 0) (ds := [.str "endless", lotD (lotOf n.k far)]) (d := .str "endless") rfl (ev_var rfl) ev_int) ev_str)) (by decide)) fun h => nomatch h) rfl) (fun _ => sv_ret1 ev_bl ?_) fun h => nomatch h
        show D.bl false = D.bl _
        rw [hres, hnone]
        rfl
      · refine sv_guard (b := !decide (x = j) || !(areSteps n.ws.length b && isWay n.ws st gl (unSteps b))) (EvB.to (eb_or (a := false) (EvB.to (eb_T (ev_neS (ev_ixT (i := 0) (ds := [.str "most", .int x, stepsD sts]) (d := .str "most") rfl (ev_var rfl) ev_int) ev_str)) (by decide)) fun _ => eb_or (eb_T (ev_neI (ev_ixT (i := 1) (ds := [.str "most", .int x, stepsD sts]) (d := .int x) rfl (ev_var rfl) ev_int) (e1 U _))) fun _ => eb_not (eb_B (ev_callG (IsWay.mk n st gl b) (ea_cons (ev_var rfl) (ea_cons (ev_var rfl) (ea_cons (ev_var rfl) (ea_cons (e2 U _) ea_nil)))) ⟨hn, hb⟩))) rfl) (fun hg => sv_ret1 ev_bl ?_) fun hg => ?_
        · show D.bl false = D.bl _
          rw [hres, hsome]
          show D.bl false = D.bl (decide (j = x) && (areSteps n.ws.length b && (isWay n.ws st gl (unSteps b) && _)))
          rw [Bool.or_eq_true, Bool.not_eq_true', Bool.not_eq_true', decide_eq_false_iff_not] at hg
          rcases hg with e | e
          · rw [decide_eq_false fun z => e z.symm]
            rfl
          · rw [← Bool.and_assoc (areSteps _ _), e, Bool.false_and, Bool.and_false]
        · rw [Bool.or_eq_false_iff, Bool.not_eq_false', Bool.not_eq_false', decide_eq_true_eq, Bool.and_eq_true] at hg
          obtain ⟨rfl, hs1, hs2⟩ := hg
          obtain ⟨sb, rfl, hsb⟩ := areSteps_is hs1
          have hsl : sb.length ≤ 500 := by
            have := (vl_tup hb).1
            rw [List.length_map] at this
            exact this
          refine sv_ret1 (ev_eqO (ev_callG (rs, sb) (ea_cons (ev_var rfl) (ea_cons (e2 U _) ea_nil)) ⟨fun p hp => by show StepIn rs.length p; rw [hlen]; exact hsb p hp, hsl⟩) (e1 U _)) ?_
          show D.bl _ = D.bl _
          rw [hres, hsome]
          show D.bl _ = D.bl (decide (x = x) && (areSteps n.ws.length (stepsD sb) && (isWay n.ws st gl (unSteps (stepsD sb)) && decide (lenOf rs (unSteps (stepsD sb)) = some x))))
          rw [hs1, hs2, unSteps_st, decide_eq_true (rfl : x = x)]
          rfl
    · have hfirst : ∀ {b : Bool}, (decide (w0 = "most") && (decide (((D.str w0 :: ds).length : Int) = 3) && b)) = true → w0 = "most" ∧ ∃ a b', ds = [a, b'] := fun {b} h => by
        rw [Bool.and_eq_true, Bool.and_eq_true, decide_eq_true_eq, decide_eq_true_eq] at h
        obtain ⟨h1, h2, _⟩ := h
        match ds, h2 with
        | [a, b'], _ => exact ⟨h1, a, b', rfl⟩
        | [], h2 => simp at h2
        | [a], h2 => simp at h2
        | _ :: _ :: _ :: _, h2 => simp only [List.length_cons] at h2; omega
      have hguard : ∃ b, EvB ⟨CN, U, U, [], 0⟩ (tAnd (tTest (tOp rEq (tOp (rIxT K) (tVar 4) (tC (.int 0))) (tC (.str "most")))) (tAnd (tTest (tOp rEq (tCB (rLenS K) (tCons (tVar 4) tNil)) (tC (.int 3)))) (tB (tCall (spWhole CN) [] E0 (tCons (tOp (rIxT K) (tVar 4) (tC (.int 1))) tNil))))) [.d n.d, .d (rsD rs), .d (.int (st : Int)), .d (.int (gl : Int)), .d (.tup (.str w0 :: ds)), .no] [] (Is b) ∧ b = false := by
        by_cases h1 : w0 = "most"
        · by_cases h2 : ∃ a b', ds = [a, b']
          · obtain ⟨a, b', rfl⟩ := h2
            have hw : a.whole = false := by
              cases q : a.whole with
              | false => rfl
              | true => exact absurd ⟨h1, a, b', rfl, q⟩ hm
            refine ⟨_, eb_and (eb_T (ev_eqS (e0 U) ev_str)) fun _ => eb_and (eb_T (ev_eqI (ev_lenT (ds := [.str w0, a, b']) (ev_var rfl)) ev_int)) fun _ => eb_B (ev_callG a (ea_cons (ev_ixT (i := 1) (ds := [.str w0, a, b']) rfl (ev_var rfl) ev_int) ea_nil) (vl_pl (hall a (by simp)))), ?_⟩
            rw [hw, Bool.and_false, Bool.and_false]
          · refine ⟨_, eb_and (eb_T (ev_eqS (e0 U) ev_str)) fun _ => eb_and (b := true) (eb_T (ev_eqI (ev_lenT (ds := .str w0 :: ds) (ev_var rfl)) ev_int)) fun h3 => absurd (hfirst (b := true) (by rw [decide_eq_true h1, h3]; rfl)).2 h2, ?_⟩
            cases q : (decide (w0 = "most") && (decide (((D.str w0 :: ds).length : Int) = 3) && true)) with
            | false => rfl
            | true => exact absurd (hfirst q).2 h2
        · refine ⟨_, eb_and (b := true) (eb_T (ev_eqS (e0 U) ev_str)) fun h => absurd (of_decide_eq_true h) h1, ?_⟩
          show (decide (w0 = "most") && true) = false
          rw [decide_eq_false h1]
          rfl
      obtain ⟨b0, hg0, rfl⟩ := hguard
      refine sv_guard (b := false) hg0 (fun h => nomatch h) fun _ => ?_
      by_cases he : w0 = "endless" ∧ ∃ a, ds = [a]
      · obtain ⟨rfl, a, rfl⟩ := he
        have hav : a.vl = true := hall a (by simp)
        have e1 : ∀ U, EvP ⟨CN, U, U, [], 0⟩ (tOp (rIxT K) (tVar 4) (tC (.int 1))) [.d n.d, .d (rsD rs), .d (.int (st : Int)), .d (.int (gl : Int)), .d (.tup [.str "endless", a]), .no] [] (Is a) := fun U => ev_ixT (i := 1) (ds := [.str "endless", a]) rfl (ev_var rfl) ev_int
        have hres : FarV.res ⟨⟨n, rs, st, gl⟩, .tup [.str "endless", a]⟩ = (isLot n.k a && (inLot (dItems a) gl && (!inLot (dItems a) st && canRise n.ws rs (dItems a)))) := by
          show (decide (("endless" : Str) = "endless") && _) = _
          rw [decide_eq_true rfl]
          rfl
        refine sv_guard (b := !isLot n.k a) (EvB.to (eb_or (a := false) (EvB.to (eb_T (ev_neS (e0 U) ev_str)) (by decide)) fun _ => eb_or (a := false) (EvB.to (eb_T (ev_neI (ev_lenT (ds := [.str "endless", a]) (ev_var rfl)) ev_int)) rfl) fun _ => eb_not (eb_B (ev_callG (n, a) (ea_cons (ev_var rfl) (ea_cons (e1 U) ea_nil)) ⟨hn, hav⟩))) rfl) (fun hg => sv_ret1 ev_bl ?_) fun hg => ?_
        · rw [Bool.not_eq_true'] at hg
          show D.bl false = D.bl _
          rw [hres, hg]
          rfl
        · rw [Bool.not_eq_false'] at hg
          obtain ⟨l, rfl, hlk⟩ := isLot_is hg
          refine sv_ret1 (ev_andV (ev_op1 (ev_var rfl) (e1 U) (od_in (.inl rfl) rfl (lotL_flat l))) fun _ => ev_andV (ev_op1 (ev_var rfl) (e1 U) (od_in (.inl rfl) rfl (lotL_flat l))) fun _ => ev_callG (Rise.mk n rs l) (ea_cons (ev_var rfl) (ea_cons (ev_var rfl) (ea_cons (e1 U) ea_nil))) hnr) ?_
          show D.bl _ = D.bl _
          rw [hres, hg]
          rfl
      · have hres : FarV.res ⟨⟨n, rs, st, gl⟩, .tup (.str w0 :: ds)⟩ = false := by
          show isFar _ _ _ _ _ _ _ = false
          by_cases h3 : (D.str w0 :: ds).length = 3 ∧ w0 = "most"
          · obtain ⟨h3, rfl⟩ := h3
            match ds, h3 with
            | [a, b], _ =>
              have hw : a.whole = false := by
                cases q : a.whole with
                | false => rfl
                | true => exact absurd ⟨rfl, a, b, rfl, q⟩ hm
              show (decide (("most" : Str) = "most") && (a.whole && _)) = false
              rw [hw, Bool.false_and, Bool.and_false]
          · refine isFar_other ⟨h3, fun h2 => he ⟨h2.2, ?_⟩⟩ rfl
            match ds, h2.1 with
            | [a], _ => exact ⟨a, rfl⟩
        by_cases h1 : w0 = "endless"
        · have h2 : ¬ ((D.str w0 :: ds).length : Int) = 2 := fun h2 => he ⟨h1, by
            match ds, h2 with
            | [a], _ => exact ⟨a, rfl⟩
            | [], h2 => simp at h2
            | _ :: _ :: _, h2 => simp only [List.length_cons] at h2; omega⟩
          refine sv_guard (b := true) (EvB.to (eb_or (a := false) (EvB.to (eb_T (ev_neS (e0 U) ev_str)) (by rw [decide_eq_true h1]; rfl)) fun _ => eb_or (a := true) (b := true) (EvB.to (eb_T (ev_neI (ev_lenT (ds := .str w0 :: ds) (ev_var rfl)) ev_int)) (by rw [decide_eq_false h2]; rfl)) fun h => nomatch h) rfl) (fun _ => sv_ret1 ev_bl (congrArg D.bl hres.symm)) fun h => nomatch h
        · refine sv_guard (b := true) (EvB.to (eb_or (a := true) (b := true) (EvB.to (eb_T (ev_neS (e0 U) ev_str)) (by rw [decide_eq_false h1]; rfl)) fun h => nomatch h) rfl) (fun _ => sv_ret1 ev_bl (congrArg D.bl hres.symm)) fun h => nomatch h
  · have hres : FarV.res ⟨⟨n, rs, st, gl⟩, v⟩ = false := by
      show isFar _ _ _ _ _ _ _ = false
      cases v with
      | tup ds =>
        cases ds with
        | nil => rfl
        | cons a ds =>
          cases a with
          | str w0 => exact absurd ⟨w0, ds, rfl⟩ hT
          | _ => match ds with
            | [] => rfl
            | [_] => rfl
            | [_, _] => rfl
            | _ :: _ :: _ :: _ => rfl
      | _ => rfl
    by_cases hT2 : ∃ a ds, v = .tup (a :: ds)
    · obtain ⟨a, ds, rfl⟩ := hT2
      have hns : a.isS = false := by
        cases a <;> first | rfl | exact absurd ⟨_, _, rfl⟩ hT
      refine sv_guard (b := true) (EvB.to (eb_or (a := false) (EvB.to (eb_not (eb_B (ev_isT (ev_var rfl)))) rfl) fun _ => eb_or (a := false) (eb_T (EvP.to (ev_op1 (ev_var rfl) (ev_tup1 ea_nil) (od_eqP (vl_pln hv) rfl (.inr (by decide)))) (congrArg D.bl (eqv_nilT _)))) fun _ => eb_not (eb_B (ev_isS (ev_ixT (i := 0) (ds := a :: ds) (atI0 _ _) (ev_var rfl) ev_int) (vl_pl ((vl_tup hv).2 a (by simp)))))) (by rw [hns]; rfl)) (fun _ => sv_ret1 ev_bl (congrArg D.bl hres.symm)) fun h => nomatch h
    · by_cases hT3 : v = .tup []
      · subst hT3
        refine sv_guard (b := true) (EvB.to (eb_or (a := false) (EvB.to (eb_not (eb_B (ev_isT (ev_var rfl)))) rfl) fun _ => eb_or (a := true) (b := true) (eb_T (EvP.to (ev_op1 (ev_var rfl) (ev_tup1 ea_nil) (od_eqP (vl_pln hv) rfl (.inr (by decide)))) (congrArg D.bl (eqv_nilT _)))) fun h => nomatch h) rfl) (fun _ => sv_ret1 ev_bl (congrArg D.bl hres.symm)) fun h => nomatch h
      · have hnt : v.isT = false := by
          cases v with
          | tup ds =>
            cases ds with
            | nil => exact absurd rfl hT3
            | cons a ds => exact absurd ⟨a, ds, rfl⟩ hT2
          | _ => rfl
        refine sv_guard (b := true) (EvB.to (eb_or (a := true) (b := true) (EvB.to (eb_not (eb_B (ev_isT (ev_var rfl) (vl_pl hv)))) (by rw [hnt]; rfl)) fun h => nomatch h) rfl) (fun _ => sv_ret1 ev_bl (congrArg D.bl hres.symm)) fun h => nomatch h
theorem ok_is_range (B : Bf mg) (C_is_integer : Cal P w K mg base CX0 2 "is_integer" ["value"] (spInteger CN)) (g : mg "is_range" = some (.ref f)) (F : FnP K "is_range" s_is_range f fd) : Cal P w K mg base CX0 3 "is_range" ["value"] (spIsRange CN) := by
  refine cal_mk g F (fun _ _ _ _ _ _ us hl => match us, hl with | [_], _ => rfl) (fn_N _ _ _ F sc_is_range (fun _ => rfl) fun cdv A outer s H E hr r hz => ?_)
  obtain ⟨lo, hi⟩ := r
  obtain ⟨h1, h2, h3⟩ := hz
  replace h1 : ∀ x, lo = some x → -(10 ^ 60) < x ∧ x < 10 ^ 60 := h1
  replace h2 : ∀ x, hi = some x → -(10 ^ 60) < x ∧ x < 10 ^ 60 := h2
  replace h3 : ∀ x y, lo = some x → hi = some y → x ≤ y := h3
  refine ⟨_, (pss_cons (ps_if (PW.pt (pw_or (pt_not (pt_val (pe_isi B.b_isinstance (pv 0) (pe_tyn (n := "tuple") B.b_tuple PyProof.Rows.boot_tuple)))) (pw_or1 (pt_cmpR op_ne (pe_len B.b_len (pv 0)) (pe_gint B.c_PAIR_heights) (nomark _))))) (pss_one (ps_ret pe_bl)) pss_nil) (pss_cons (ps_if (pt_not (pt_val (pe_all rfl B.b_all (pe_lc (own := [("end", 1)]) (g := (gName 1)) rfl sc_is_range.nd (pi_tup (pv 0)) (blkOk_by (own := [("end", 1)]) (N := n_is_range) (sc := defScope s_is_range) (by decide +kernel)) (fun _ _ _ _ _ => (pg_name (i := 1) sc_is_range.nd rfl (by first | exact Or.inl rfl | exact Or.inr rfl))) (fun _ _ _ _ _ => pts_nil) (fun _ _ _ _ _ => (pe_or (pe_cmp (pc_isN (pv 1))) (pe_one (pe_own C_is_integer (hr.mono (by decide)) rfl pass0 (pa_cons (pv 1) pa_nil))))))))) (pss_one (ps_ret pe_bl)) pss_nil) (pss_one (ps_ret (pe_or (pe_cmp (pc_isN (pe_ix ix_tup (pv 0) pe_int (fun _ _ => rfl)))) (pe_or (pe_cmp (pc_isN (pe_ix ix_tup (pv 0) pe_int (fun _ _ => rfl)))) (pe_one (pe_cmpR op_le (pe_ix ix_tup (pv 0) pe_int (fun _ _ => rfl)) (pe_ix ix_tup (pv 0) pe_int (fun _ _ => rfl)) (nomark _))))))))), fun U => ?_⟩
  have elem : ∀ (o : Option Int), (∀ x, o = some x → -(10 ^ 60) < x ∧ x < 10 ^ 60) → ((oD o).isN || (oD o).integer) = true := fun o h => by
    cases o with
    | none => rfl
    | some x =>
      obtain ⟨a, b⟩ := h x rfl
      show (false || (decide (-(10 ^ 60) < x) && decide (x < 10 ^ 60))) = true
      rw [decide_eq_true a, decide_eq_true b]
      rfl
  have plO : ∀ o : Option Int, (oD o).pl := fun o => by cases o <;> rfl
  refine sv_guard (b := false) (EvB.to (eb_or (a := false) (EvB.to (eb_not (eb_B (ev_isT (x := .tup [oD lo, oD hi]) (ev_var rfl)))) rfl) fun _ => eb_T (ev_neI (ev_lenT (ds := [oD lo, oD hi]) (ev_var rfl)) ev_int)) rfl) (fun h => nomatch h) fun _ => ?_
  refine sv_guard (b := false) (EvB.to (eb_not (eb_B (ev_allM (f := fun d => d.isN || d.integer) (ev_map (f := fun d => .bl (d.isN || d.integer)) (iv_tup (ds := [oD lo, oD hi]) (ev_var rfl)) (wp_name (by decide)) (show 2 < 1000 by decide) fun i d p acc hd => ?_)))) ?_) (fun h => nomatch h) fun _ => ?_
  · have hp : d.pl := by
      match i, hd with
      | 0, hd => cases hd; exact plO lo
      | 1, hd => cases hd; exact plO hi
    exact gv_name ⟨rfl, ev_orV (ev_isN (ev_var rfl)) fun _ => ev_callG d (ea_cons (ev_var rfl) ea_nil) hp⟩
  · show (!(((oD lo).isN || (oD lo).integer) && (((oD hi).isN || (oD hi).integer) && true))) = false
    rw [elem lo h1, elem hi h2]
    rfl
  · have i0 : EvP ⟨CN, U, U, [], 0⟩ (tOp (rIxT K) (tVar 0) (tC (.int 0))) [.d (rgD (lo, hi)), .no] [] (Is (oD lo)) := ev_ixT (i := 0) (ds := [oD lo, oD hi]) rfl (ev_var rfl) ev_int
    have i1 : EvP ⟨CN, U, U, [], 0⟩ (tOp (rIxT K) (tVar 0) (tC (.int 1))) [.d (rgD (lo, hi)), .no] [] (Is (oD hi)) := ev_ixT (i := 1) (ds := [oD lo, oD hi]) rfl (ev_var rfl) ev_int
    cases lo with
    | none => exact sv_ret1 (EvP.to (ev_orV (a := true) (b := true) (ev_isN i0) fun h => nomatch h) rfl) rfl
    | some x =>
      cases hi with
      | none => exact sv_ret1 (EvP.to (ev_orV (a := false) (ev_isN i0) fun _ => ev_orV (a := true) (b := true) (ev_isN i1) fun h => nomatch h) rfl) rfl
      | some y => exact sv_ret1 (EvP.to (ev_orV (a := false) (ev_isN i0) fun _ => ev_orV (a := false) (ev_isN i1) fun _ => ev_le i0 i1) (congrArg D.bl (by rw [decide_eq_true (h3 x y rfl rfl)]; rfl))) rfl
theorem ok_require_ranges (B : Bf mg) (NF : NetF K CN CP) (C_wires : Prp P w K mg base CN 1 "wires" (spWires CN)) (C_require_net : Cal P w K mg base CX0 1 "require_net" ["value"] (spReqNet CN)) (C_is_range : Cal P w K mg base CX0 3 "is_range" ["value"] (spIsRange CN)) (g : mg "require_ranges" = some (.ref f)) (F : FnP K "require_ranges" s_require_ranges f fd) : Cal P w K mg base CX0 4 "require_ranges" ["net", "ranges"] (spReqRanges CN) := by
  refine cal_mk g F (fun _ _ _ _ _ _ us hl => match us, hl with | [_, _], _ => rfl) (fn_N _ _ _ F sc_require_ranges (fun _ => rfl) fun cdv A outer s H E hr z hz => ?_)
  obtain ⟨n, rs⟩ := z
  obtain ⟨⟨hn, hlen⟩, hrs⟩ := hz
  replace hlen : rs.length = n.ws.length := hlen
  replace hn : n.ok := hn
  refine ⟨_, (pss_cons (ps_expr (pe_own C_require_net (hr.mono (by decide)) rfl pass0 (pa_cons (pv 0) pa_nil))) (pss_one (ps_if (PW.pt (pw_or (pt_not (pt_val (pe_isi B.b_isinstance (pv 1) (pe_tyn (n := "tuple") B.b_tuple PyProof.Rows.boot_tuple)))) (pw_or (pt_cmpR op_ne (pe_len B.b_len (pv 1)) (pe_len B.b_len (pe_net_prop NF C_wires (hr.mono (by decide)) (pv 0))) (nomark _)) (pw_or1 (pt_not (pt_val (pe_all rfl B.b_all (pe_lc (own := [("one", 2)]) (g := (gName 2)) rfl sc_require_ranges.nd (pi_tup (pv 1)) (blkOk_by (own := [("one", 2)]) (N := n_require_ranges) (sc := defScope s_require_ranges) (by decide +kernel)) (fun _ _ _ _ _ => (pg_name (i := 2) sc_require_ranges.nd rfl (by first | exact Or.inl rfl | exact Or.inr rfl))) (fun _ _ _ _ _ => pts_nil) (fun _ _ _ _ _ => (pe_own C_is_range (hr.mono (by decide)) rfl pass0 (pa_cons (pv 2) pa_nil))))))))))) (pss_one ps_never) pss_nil))), fun U => ?_⟩
  refine sv_seq (N1 := fun ρ' μ' => ρ' = [.d n.d, .d (rsD rs), .no] ∧ μ' = []) (sv_drop (ev_callG n (ea_cons (ev_var rfl) ea_nil) trivial) ⟨rfl, rfl⟩) fun ρ' μ' h => ?_
  obtain ⟨rfl, rfl⟩ := h
  have h24 : n.ws.length ≤ 24 := hn.2.2.1
  refine sv_if (b := false) (EvB.to (eb_or (a := false) (EvB.to (eb_not (eb_B (ev_isT (x := rsD rs) (ev_var rfl)))) rfl) fun _ => eb_or (a := false) (EvB.to (eb_T (ev_neI (ev_lenT (ds := rs.map rgD) (ev_var rfl)) (ev_lenT (ds := n.ws.map Wi.d) (ev_propG (k := (n.k : Int)) (wd := wsD n.ws) n (ev_var rfl) rfl trivial)))) ?_) fun _ => eb_not (eb_B (ev_allM (f := fun _ => true) (ev_map (f := fun _ => .bl true) (iv_tup (ds := rs.map rgD) (ev_var rfl)) (wp_name (by decide)) (by rw [List.length_map]; omega) fun i d p acc hd => ?_)))) ?_) (fun h => nomatch h) fun _ => sv_next rfl
  · rw [List.length_map, List.length_map, hlen, decide_eq_true rfl]
    rfl
  · obtain ⟨r, hr', rfl⟩ := getMap hd
    exact gv_name ⟨rfl, ev_callG r (ea_cons (ev_var rfl) ea_nil) (hrs r (List.mem_of_getElem? hr'))⟩
  · rw [List.all_eq_true.mpr fun _ _ => rfl]
    rfl
end
end RN
end

section
set_option Elab.async false
set_option linter.all false
set_option maxRecDepth 100000
set_option maxHeartbeats 2000000
set_option autoImplicit false
/-! RN_LRules: numbers of which not all is known; the urn. -/
namespace RN
open PySem PySem.Spec L2
section
variable {X : Cx} {p pos : Pos} {a b : Expr} {ta tb : TE}
abbrev rInt1 : List V → Hp → VK → Prop := fun xs H Q => (∃ i, xs = [.int i] ∧ Q (.int i) H) ∨ ∃ k, xs = [.bl k] ∧ Q (.int (if k then 1 else 0)) H
theorem pe_int1 (hm : X.mg "int" = none) (ha : PE X a ta) (hg : Gl X "int" := by rfl) (h1 : starEach [a] X.env = (false, eval a X.env) :: starEach [] X.env := by rfl) : PE X (.Call (.Name "int" p) [a] [] pos) (tCB rInt1 (tCons ta tNil)) :=
  pe_callTy call_int1 hg hm PyProof.Rows.boot_int (pa_cons ha pa_nil h1) (by decide) (by decide) h1 (by rfl)
abbrev rAbs : List V → Hp → VK → Prop := fun xs H Q => ∃ i, xs = [.int i] ∧ Q (.int (if i < 0 then -i else i)) H
theorem pe_abs (hm : X.mg "abs" = none) (ha : PE X a ta) (hg : Gl X "abs" := by rfl) (h1 : starEach [a] X.env = (false, eval a X.env) :: starEach [] X.env := by rfl) : PE X (.Call (.Name "abs" p) [a] [] pos) (tCB rAbs (tCons ta tNil)) :=
  pe_callB call_abs hg hm PyProof.Rows.boot_abs (pa_cons ha pa_nil h1) (by decide) (by decide) h1 (by rfl)
abbrev rMax2 : List V → Hp → VK → Prop := fun xs H Q => ∃ i j, xs = [.int i, .int j] ∧ Q (.int (if j > i then j else i)) H
abbrev rMin2 : List V → Hp → VK → Prop := fun xs H Q => ∃ i j, xs = [.int i, .int j] ∧ Q (.int (if j < i then j else i)) H
theorem pe_max2 (hc : X.calm = true) (hm : X.mg "max" = none) (ha : PE X a ta) (hb : PE X b tb) (hg : Gl X "max" := by rfl) (h1 : starEach [a, b] X.env = (false, eval a X.env) :: starEach [b] X.env := by rfl) (h2 : starEach [b] X.env = (false, eval b X.env) :: starEach [] X.env := by rfl)
    (hpl : (backTo pos (starEach [b] X.env)).any (·.1) = false := by rfl) : PE X (.Call (.Name "max" p) [a, b] [] pos) (tCB rMax2 (tCons ta (tCons tb tNil))) :=
  pe_callB (call_max2 hc) hg hm PyProof.Rows.boot_max (pa_cons ha (pa_cons hb pa_nil h2) h1) (by decide) (by decide) h1 hpl
theorem pe_min2 (hc : X.calm = true) (hm : X.mg "min" = none) (ha : PE X a ta) (hb : PE X b tb) (hg : Gl X "min" := by rfl) (h1 : starEach [a, b] X.env = (false, eval a X.env) :: starEach [b] X.env := by rfl) (h2 : starEach [b] X.env = (false, eval b X.env) :: starEach [] X.env := by rfl)
    (hpl : (backTo pos (starEach [b] X.env)).any (·.1) = false := by rfl) : PE X (.Call (.Name "min" p) [a, b] [] pos) (tCB rMin2 (tCons ta (tCons tb tNil))) :=
  pe_callB (call_min2 hc) hg hm PyProof.Rows.boot_min (pa_cons ha (pa_cons hb pa_nil h2) h1) (by decide) (by decide) h1 hpl
def CPowW (i j : Int) : Prop := 0 ≤ j ∧ (Builtin.Int.intBits i : Int) * j ≤ 2 ^ 27
theorem op_powN : OpR X (binaryOp .Pow) (rI CPowW fun i j => .int (i ^ j.toNat)) := opI fun _ _ _ _ _ _ _ hc q => PyProof.Rows.pow_int hc.1 hc.2 q
end
section
variable {W : Wd} {σ : L2.St} {H H' : Hp} {ρ : List Sl} {μ : List Cell} {ta tb tc : TE} {Pa Pb Pc : Int → Prop} {N : List Sl → List Cell → Prop} {R : D → List Cell → Prop}
/-- a number of which P is known -/
def EvN (W : Wd) (te : TE) (ρ : List Sl) (μ : List Cell) (P : Int → Prop) : Prop := EvP W te ρ μ fun d => ∃ x, d = .int x ∧ P x
theorem en_of {x : Int} (h : EvP W ta ρ μ (Is (.int x))) (hp : Pa x) : EvN W ta ρ μ Pa := EvP.imp h fun d e => ⟨x, e, hp⟩
theorem en_is {x : Int} (h : EvP W ta ρ μ (Is (.int x))) : EvN W ta ρ μ fun y => y = x := en_of h rfl
theorem en_op {C : Int → Int → Prop} {g : Int → Int → Int} (h1 : EvN W ta ρ μ Pa) (h2 : EvN W tb ρ μ Pb) (h : ∀ x y, Pa x → Pb y → C x y ∧ Pc (g x y)) : EvN W (tOp (rI C fun i j => .int (g i j)) ta tb) ρ μ Pc := ev_op h1 h2 fun x y hx hy => by
  obtain ⟨i, rfl, pi⟩ := hx
  obtain ⟨j, rfl, pj⟩ := hy
  obtain ⟨c, pc⟩ := h i j pi pj
  exact fun H μ s vx vy r1 r2 Q q => ⟨i, j, r1, r2, c, q _ H (.int (g i j)) (Same.refl H) rfl ⟨_, rfl, pc⟩⟩
theorem en_op0 {g : Int → Int → Int} (h1 : EvN W ta ρ μ Pa) (h2 : EvN W tb ρ μ Pb) (h : ∀ x y, Pa x → Pb y → Pc (g x y)) : EvN W (tOp (rI0 fun i j => .int (g i j)) ta tb) ρ μ Pc := ev_op h1 h2 fun x y hx hy => by
  obtain ⟨i, rfl, pi⟩ := hx
  obtain ⟨j, rfl, pj⟩ := hy
  exact fun H μ s vx vy r1 r2 Q q => ⟨i, j, r1, r2, q _ H (.int (g i j)) (Same.refl H) rfl ⟨_, rfl, h i j pi pj⟩⟩
theorem en_cb1 {r : List V → Hp → VK → Prop} {g : Int → Int} (h1 : EvN W ta ρ μ Pa) (hr : ∀ (i : Int) (H : Hp) (Q : VK), Q (.int (g i)) H → r [.int i] H Q) (h : ∀ x, Pa x → Pc (g x)) : EvN W (tCB r (tCons ta tNil)) ρ μ Pc :=
  ev_cb (ea_consN h1 ea_nil) fun ds hd => by
    obtain ⟨d, r', rfl, ⟨i, rfl, pi⟩, hr'⟩ := hd
    rw [show r' = [] from hr']
    intro H μ s vs rv Q q
    obtain ⟨v, r1, rfl, rv1, rr⟩ := rv
    rw [show v = .int i from rv1, show r1 = [] from rr]
    exact hr i H Q (q _ H (.int (g i)) (Same.refl H) rfl ⟨_, rfl, h i pi⟩)
theorem en_int1 (h1 : EvN W ta ρ μ Pa) : EvN W (tCB rInt1 (tCons ta tNil)) ρ μ Pa := en_cb1 (g := fun i => i) h1 (fun i H Q q => .inl ⟨i, rfl, q⟩) fun _ h => h
theorem en_abs (h1 : EvN W ta ρ μ Pa) : EvN W (tCB rAbs (tCons ta tNil)) ρ μ fun x => 0 ≤ x := en_cb1 (g := fun i => if i < 0 then -i else i) h1 (fun i H Q q => ⟨i, rfl, q⟩) fun x _ => by
  show 0 ≤ if x < 0 then -x else x
  split <;> omega
theorem en_intB {P : D → Prop} (h1 : EvP W ta ρ μ P) (hP : ∀ d, P d → ∃ b, d = .bl b) : EvN W (tCB rInt1 (tCons ta tNil)) ρ μ fun x => x = 0 ∨ x = 1 :=
  ev_cb (ea_consN h1 ea_nil) fun ds hd => by
    obtain ⟨d, r', rfl, pd, hr'⟩ := hd
    obtain ⟨b, rfl⟩ := hP d pd
    rw [show r' = [] from hr']
    intro H μ s vs rv Q q
    obtain ⟨v, r1, rfl, rv1, rr⟩ := rv
    rw [show v = .bl b from rv1, show r1 = [] from rr]
    refine .inr ⟨b, rfl, q _ H (.int (if b then 1 else 0)) (Same.refl H) rfl ⟨_, rfl, ?_⟩⟩
    cases b
    · exact .inl rfl
    · exact .inr rfl
theorem en_max2 (h1 : EvN W ta ρ μ Pa) (h2 : EvN W tb ρ μ Pb) : EvN W (tCB rMax2 (tCons ta (tCons tb tNil))) ρ μ fun x => Pa x ∨ Pb x :=
  ev_cb (ea_consN h1 (ea_consN h2 ea_nil)) fun ds hd => by
    obtain ⟨d, r', rfl, ⟨i, rfl, pi⟩, e, r2, rfl, ⟨j, rfl, pj⟩, hr'⟩ := hd
    rw [show r2 = [] from hr']
    intro H μ s vs rv Q q
    obtain ⟨v, r1, rfl, rv1, v2, r3, rfl, rv2, rr⟩ := rv
    rw [show v = .int i from rv1, show v2 = .int j from rv2, show r3 = [] from rr]
    refine ⟨i, j, rfl, q _ H (.int (if j > i then j else i)) (Same.refl H) rfl ⟨_, rfl, ?_⟩⟩
    split
    · exact .inr pj
    · exact .inl pi
/-- x < y and so on, of such -/
theorem en_cmp {g : Int → Int → Bool} (h1 : EvN W ta ρ μ Pa) (h2 : EvN W tb ρ μ Pb) : EvP W (tOp (rI0 fun i j => .bl (g i j)) ta tb) ρ μ fun d => ∃ x y, Pa x ∧ Pb y ∧ d = .bl (g x y) := ev_op h1 h2 fun x y hx hy => by
  obtain ⟨i, rfl, pi⟩ := hx
  obtain ⟨j, rfl, pj⟩ := hy
  exact fun H μ s vx vy r1 r2 Q q => ⟨i, j, r1, r2, q _ H (.bl (g i j)) (Same.refl H) rfl ⟨i, j, pi, pj, rfl⟩⟩
theorem en_mod {m : Int} (hm : 0 < m) (h1 : EvN W ta ρ μ Pa) (h2 : EvP W tb ρ μ (Is (.int m))) : EvN W (tOp (rI (fun _ j => 0 < j) fun i j => .int (i % j)) ta tb) ρ μ fun x => 0 ≤ x ∧ x < m := en_op h1 (en_is h2) fun x y _ hy => by
  rw [hy]
  exact ⟨hm, Int.emod_nonneg _ (by omega), Int.emod_lt_of_pos _ hm⟩
theorem en_mulL {m : Int} (hm : -(2 ^ 64) < m ∧ m < 2 ^ 64) (h1 : EvP W ta ρ μ (Is (.int m))) (h2 : EvN W tb ρ μ Pb) : EvN W (tOp (rI CMul fun i j => .int (i * j)) ta tb) ρ μ fun _ => True := en_op (en_is h1) h2 fun x y hx _ => ⟨.inl (by rw [hx]; exact hm), trivial⟩
theorem en_mulR {m : Int} (hm : -(2 ^ 64) < m ∧ m < 2 ^ 64) (h1 : EvN W ta ρ μ Pa) (h2 : EvP W tb ρ μ (Is (.int m))) : EvN W (tOp (rI CMul fun i j => .int (i * j)) ta tb) ρ μ fun _ => True := en_op h1 (en_is h2) fun x y _ hy => ⟨.inr (by rw [hy]; exact hm), trivial⟩
theorem en_add (h1 : EvN W ta ρ μ Pa) (h2 : EvN W tb ρ μ Pb) : EvN W (tOp (rI0 fun i j => .int (i + j)) ta tb) ρ μ fun _ => True := en_op0 h1 h2 fun _ _ _ _ => trivial
theorem en_sub (h1 : EvN W ta ρ μ Pa) (h2 : EvN W tb ρ μ Pb) : EvN W (tOp (rI0 fun i j => .int (i - j)) ta tb) ρ μ fun _ => True := en_op0 h1 h2 fun _ _ _ _ => trivial
theorem en_div {m : Int} (hm : 0 < m ∧ m.natAbs.log2 < 9000) (h1 : EvN W ta ρ μ Pa) (h2 : EvP W tb ρ μ (Is (.int m))) : EvN W (tOp (rI CDivW fun i j => .int (i / j)) ta tb) ρ μ fun _ => True := en_op h1 (en_is h2) fun x y _ hy => ⟨by rw [hy]; exact hm, trivial⟩
/-! the urn -/
theorem en_urn {K : PySem.W.Frag} {i j : Nat} {k : Int} (hr : ρ[i]? = some (.c j)) (hm : μ[j]? = some .urn) (hk : k = 0 ∨ k = 1 ∨ k = 2) : EvN W (tOp (rIxL K) (tVar i) (tC (.int k))) ρ μ fun _ => True := fun σ H s Q q => by
  obtain ⟨a, ha, hσ⟩ := s.sl i _ hr
  obtain ⟨a', ha', x, y, z, ex⟩ := s.sto.cell j _ hm
  rw [ha] at ha'
  cases ha'
  rcases hk with rfl | rfl | rfl
  · exact ⟨.ref a, hσ, a, [.int x, .int y, .int z], 0, .int x, rfl, rfl, SqL.of ex, rfl, q _ H (.int x) (Ch.refl _ _) s rfl ⟨x, rfl, trivial⟩⟩
  · exact ⟨.ref a, hσ, a, [.int x, .int y, .int z], 1, .int y, rfl, rfl, SqL.of ex, rfl, q _ H (.int y) (Ch.refl _ _) s rfl ⟨y, rfl, trivial⟩⟩
  · exact ⟨.ref a, hσ, a, [.int x, .int y, .int z], 2, .int z, rfl, rfl, SqL.of ex, rfl, q _ H (.int z) (Ch.refl _ _) s rfl ⟨z, rfl, trivial⟩⟩
theorem gv_urn {i j : Nat} {k x : Int} (hr : ρ[i]? = some (.c j)) (hm : μ[j]? = some .urn) (hk : k = 0 ∨ k = 1 ∨ k = 2) (h : N ρ μ) : GvP W (gSub (tVar i) (tC (.int k)) rSetL) ρ μ (.int x) N := fun σ H v s r Q q => by
  obtain ⟨a, ha, hσ⟩ := s.sl i _ hr
  obtain ⟨a', ha', x0, y0, z0, ex⟩ := s.sto.cell j _ hm
  rw [ha] at ha'
  cases ha'
  rw [show v = .int x from r]
  have hset : μ.set j .urn = μ := by
    refine List.ext_getElem? fun l => ?_
    by_cases e : l = j
    · subst e
      rw [List.getElem?_set_self (List.getElem?_eq_some_iff.mp hm).1, hm]
    · rw [List.getElem?_set_ne (Ne.symm e)]
  have fin : ∀ (l : List V), (∃ x y z : Int, l = [.int x, .int y, .int z]) → Stt W σ (upd H a (.lst l)) ρ μ ∧ Ch W.A H (upd H a (.lst l)) := fun l hl => by
    obtain ⟨x, y, z, rfl⟩ := hl
    have := s.put (o := .lst [.int x, .int y, .int z]) (c := .urn) ha hm ⟨x, y, z, upd_same⟩
    rw [hset] at this
    exact this
  rcases hk with rfl | rfl | rfl
  · obtain ⟨s1, c1⟩ := fin [.int x, .int y0, .int z0] ⟨_, _, _, rfl⟩
    exact ⟨.ref a, hσ, a, [.int x0, .int y0, .int z0], 0, 0, rfl, rfl, ex, rfl, q σ _ ρ μ c1 s1 h⟩
  · obtain ⟨s1, c1⟩ := fin [.int x0, .int x, .int z0] ⟨_, _, _, rfl⟩
    exact ⟨.ref a, hσ, a, [.int x0, .int y0, .int z0], 1, 1, rfl, rfl, ex, rfl, q σ _ ρ μ c1 s1 h⟩
  · obtain ⟨s1, c1⟩ := fin [.int x0, .int y0, .int x] ⟨_, _, _, rfl⟩
    exact ⟨.ref a, hσ, a, [.int x0, .int y0, .int z0], 2, 2, rfl, rfl, ex, rfl, q σ _ ρ μ c1 s1 h⟩
end
end RN
end

section
set_option Elab.async false
set_option linter.all false
set_option maxRecDepth 100000
set_option maxHeartbeats 4000000
set_option autoImplicit false
set_option exponentiation.threshold 2000
/-! RN_L1: the law's draws. -/
namespace RN
open PySem PySem.Spec L2
def spUrn (K : PySem.W.Frag) : Sp := fun vs H Q _ => ∃ (a : Addr) (bits : List Int) (i : Nat), vs = [.ref a, .int (i : Int)] ∧ ScrOk K bits (fun _ => False) H a ∧ i ≤ 2 ∧
  ∀ p H' (x y z : Int), H p = none → Same H H' → H' p = some (.lst [.int x, .int y, .int z]) → Q (.ref p) H'
def mOk (m : Int) : Prop := 0 < m ∧ m.natAbs.log2 < 9000
abbrev spBall (CN : Addr) : Sp := spU (α := Int) CN (fun m => [.int m]) mOk fun m d => ∃ r, d = .int r ∧ 0 ≤ r ∧ r < m
abbrev spTaken (CN : Addr) : Sp := spU (α := List D) CN (fun ds => [.lst ds]) (fun ds => 0 < ds.length ∧ ds.length ≤ 1000) fun ds d => d ∈ ds
abbrev spLRise (CN : Addr) : Sp := spU (α := Unit) CN (fun _ => [.int 5, .int 4]) (fun _ => True) fun _ d => ∃ r : Ri, r.ok = true ∧ d = r.d
abbrev spLWires (CN : Addr) : Sp := spU (α := Nat × Nat) CN (fun z => [.int (z.1 : Int), .int (z.2 : Int), .int 5, .int 4]) (fun z => 1 ≤ z.1 ∧ z.1 ≤ 12 ∧ z.2 ≤ 24) fun z d => ∃ ws : List Wi, d = wsD ws ∧ ws.length ≤ z.2 ∧ ws.all (Wi.ok z.1) = true
theorem mOk_of {m : Int} (h0 : 0 < m) (h1 : m < 10 ^ 70) : mOk m := ⟨h0, by
  have h2 : m.natAbs < 2 ^ 240 := by
    have : (10 : Int) ^ 70 < 2 ^ 240 := by decide
    omega
  have := (Nat.log2_lt (n := m.natAbs) (k := 240) (by omega)).mpr h2
  omega⟩
section
variable {W : Wd} {ρ : List Sl} {μ : List Cell} {tb : TE}
theorem ev_lenS {K : PySem.W.Frag} {i : Nat} {ns : List Int} (hr : ρ[i]? = some (.s K ns)) : EvP W (tCB (rLenS K) (tCons (tVar i) tNil)) ρ μ (Is (.int ns.length)) := fun σ H s Q q => by
  obtain ⟨a, hσ, hs⟩ := s.sl i _ hr
  refine ⟨.ref a, hσ, a, _, rfl, .inl hs.sq, ?_⟩
  rw [List.length_map]
  exact q _ H (.int ns.length) (Ch.refl _ _) s rfl rfl
theorem ev_ixS {K : PySem.W.Frag} {i j : Nat} {ns : List Int} {x : Int} (hr : ρ[i]? = some (.s K ns)) (hx : ns[j]? = some x) (hb : EvP W tb ρ μ (Is (.int (j : Int)))) : EvP W (tOp (rIxL K) (tVar i) tb) ρ μ (Is (.int x)) := fun σ H s Q q => by
  obtain ⟨a, hσ, _⟩ := s.sl i _ hr
  refine ⟨.ref a, hσ, hb σ H s _ fun v2 H2 d2 e2 s2 r2 p2 => ?_⟩
  rw [show d2 = .int (j : Int) from p2] at r2
  obtain ⟨a', hσ', hs⟩ := s2.sl i _ hr
  rw [hσ] at hσ'
  cases hσ'
  refine ⟨a, ns.map V.int, (j : Int), .int x, rfl, r2, hs.sq, atI_nat (by rw [List.getElem?_map, hx]; rfl), q _ H2 (.int x) e2 s2 rfl rfl⟩
end
section
variable {P : Program} {w : World} {K : PySem.W.Frag} {mg : Str → Option Value} {base : Heap} {CN CP : Addr} {f : Addr} {fd : FuncData}
theorem ok_law_urn (B : Bf mg) (g : mg "_law_urn" = some (.ref f)) (F : FnP K "_law_urn" s_law_urn f fd) : Cal P w K mg base CX0 1 "_law_urn" ["_law_script", "_law_spot"] (spUrn K) := by
  refine cal_mk g F (fun _ _ _ _ _ _ us hl => match us, hl with | [_, _], _ => rfl) (F.ok sc_law_urn (fun vs H Q E h => ?_) fun cdv A outer s H vs Q E hr h => ?_)
  · obtain ⟨a, bits, i, rfl, _⟩ := h
    rfl
  obtain ⟨a, bits, i, rfl, ea, hi, hq⟩ := h
  refine ⟨_, PSs.nox (X := cxOf CX0 P w K mg base n_law_urn "_law_urn" (defScope s_law_urn) f cdv A outer s H E) (pss_cons (ps_set (i := 2) sc_law_urn.nd rfl (by first | exact Or.inl rfl | exact Or.inr rfl) (pe_ifExp (pt_cmpR op_lt (pv 1) (pe_len B.b_len (pv 0)) (nomark _)) (pe_int1 B.b_int (pe_ix ix_list (pv 0) (pv 1) (fun _ _ => rfl))) (pe_op op_add (pe_op op_mul pe_int (pv 1)) pe_int))) (pss_cons (ps_set (i := 3) sc_law_urn.nd rfl (by first | exact Or.inl rfl | exact Or.inr rfl) (pe_op op_mod (pe_int1 B.b_int (pe_abs B.b_abs (pv 2))) (pe_op op_powN (pe_op op_powN pe_int pe_int) pe_int))) (pss_one (ps_ret (pe_lst (pa_cons (pe_max2 rfl B.b_max pe_int (pe_op op_sub (pv 3) (pe_op op_powN pe_int pe_int))) (pa_cons (pe_op op_add (pe_op op_add (pe_op op_add (pe_op op_mul (pe_op op_mod (pe_int1 B.b_int (pv 3)) pe_int) pe_int) (pe_op op_mul pe_int (pv 1))) (pe_op op_mul pe_int (pe_int1 B.b_int (pe_cmpR op_lt (pv 2) pe_int (nomark _))))) pe_int) (pa_cons pe_int pa_nil)))))))), ?_⟩
  obtain ⟨U, hU, hsc, hfresh⟩ : ∃ U : Addr → Prop, (∀ b, U b → H b ≠ none) ∧ ScrOk K bits U H a ∧ ∀ p (H' : Hp) (x y z : Int), ¬ U p → Same H H' → H' p = some (.lst [.int x, .int y, .int z]) → H p = none := by
    rcases ea with ⟨_, o, e⟩ | h
    · refine ⟨fun b => H b ≠ none ∧ b ≠ a, fun b h => h.1, .inl ⟨fun z => z.2 rfl, o, e⟩, fun p H' x y z n es ep => ?_⟩
      by_cases hp : p = a
      · rw [hp, es a _ e] at ep
        cases ep
      · cases q : H p with
        | none => rfl
        | some o => exact absurd ⟨(by rw [q]; intro z; cases z), hp⟩ n
    · refine ⟨fun b => H b ≠ none, fun b h => h, .inr h, fun p H' x y z n _ _ => ?_⟩
      cases q : H p with
      | none => rfl
      | some o => exact absurd (by show H p ≠ none; rw [q]; intro z; cases z) n
  have st : Stt ⟨0, U, U, [], 0⟩ (L2.start n_law_urn [.ref a, .int (i : Int)]) H [.s K bits, .d (.int (i : Int)), .no, .no] [] := by
    refine ⟨⟨fun j c h => by simp at h, hU, fun b h => h, fun b h => by simp at h, List.nodup_nil, rfl, Nat.le_refl _⟩, fun k x h => ?_, rfl⟩
    match k, h with
    | 0, h => cases h; exact ⟨a, rfl, hsc⟩
    | 1, h => cases h; exact ⟨.int (i : Int), rfl, rfl⟩
    | 2, h => cases h; trivial
    | 3, h => cases h; trivial
  refine SvP.use (W := ⟨0, U, U, [], 0⟩) (N := fun _ _ => False) (R := fun d μ' => ∃ x y z : Int, d = .lst [.int x, .int y, .int z]) ?_ st (fun _ _ _ _ _ _ n => n.elim) fun v H' d μ' e s' r' n => ?_
  · refine sv_let (P := fun d => ∃ x, d = .int x ∧ True) (ev_if (b := decide ((i : Int) < (bits.length : Int))) (EvB.to (eb_T (ev_lt (ev_var rfl) (ev_lenS rfl))) rfl) (fun h => ?_) fun h => ?_) fun d hd => ?_
    · rw [decide_eq_true_eq] at h
      have hb : bits[i]? = some bits[i] := List.getElem?_eq_getElem (by omega)
      exact en_int1 (en_of (Pa := fun _ => True) (ev_ixS (i := 0) (j := i) (x := bits[i]) rfl hb (ev_var rfl)) trivial)
    · exact en_add (en_mulL (m := 149) (by decide) ev_int (en_is (ev_var rfl))) (en_is ev_int)
    · obtain ⟨x, rfl, _⟩ := hd
      refine sv_let (P := fun d => ∃ x, d = .int x ∧ (0 ≤ x ∧ x < (10 ^ 55) ^ 6)) (en_mod (m := (10 ^ 55) ^ 6) (by decide) (en_int1 (en_abs (en_is (ev_var rfl)))) (EvP.to (ev_op1 (EvP.to (ev_op1 ev_int ev_int (od_I (z := .int (10 ^ 55)) ⟨by decide, by decide⟩ fun _ => rfl)) rfl) ev_int (od_I (z := .int ((10 ^ 55) ^ 6)) ⟨by decide, by decide⟩ fun _ => rfl)) rfl)) fun d hd => ?_
      obtain ⟨y, rfl, _⟩ := hd
      refine sv_ret (ev_lst (ea_consN (en_max2 (en_is ev_int) (en_sub (en_is (ev_var rfl)) (en_of (Pa := fun _ => True) (ev_op1 ev_int ev_int (od_I (z := .int (10 ^ 16)) ⟨by decide, by decide⟩ fun _ => rfl)) trivial))) (ea_consN (en_add (en_add (en_add (en_mulR (m := 83) (by decide) (en_mod (m := 2305843009213693693) (by decide) (en_int1 (en_is (ev_var rfl))) ev_int) ev_int) (en_mulL (m := 757) (by decide) ev_int (en_is (ev_var rfl)))) (en_mulL (m := 59) (by decide) ev_int (en_intB (ev_lt (ev_var rfl) ev_int) fun d e => ⟨_, e⟩))) (en_is ev_int)) (ea_cons ev_int ea_nil))) fun ds hd => ?_) fun d hd => ?_
      · obtain ⟨d1, r1, rfl, _, d2, r2, rfl, _, hr2⟩ := hd
        rw [show r2 = _ from hr2]
        exact Nat.le_of_ble_eq_true rfl
      · obtain ⟨ds, rfl, d1, r1, rfl, ⟨x1, rfl, _⟩, d2, r2, rfl, ⟨x2, rfl, _⟩, hr2⟩ := hd
        rw [show r2 = _ from hr2]
        exact ⟨x1, x2, 0, rfl⟩
  · obtain ⟨x, y, z, rfl⟩ := n
    obtain ⟨p, xs, rfl, nU, ep, rl⟩ := r'
    have es : Same H H' := fun b o hb => e b o (by simp) hb
    rw [RpL.ints (ns := [x, y, z]) rl] at ep
    exact hq p H' x y z (hfresh p H' x y z nU es ep) es ep
theorem ok_law_ball (B : Bf mg) (g : mg "_law_ball" = some (.ref f)) (F : FnP K "_law_ball" s_law_ball f fd) : Cal P w K mg base CX0 1 "_law_ball" ["_law_urn_here", "_law_many"] (spBall CN) := by
  refine cal_mk g F (fun _ _ _ _ _ _ us hl => match us, hl with | [_, _], _ => rfl) (fn_urn _ _ _ F sc_law_ball (fun _ => rfl) fun cdv A outer s H E hr m hm => ?_)
  refine ⟨_, (pss_cons (ps_if (pt_cmpR op_gt (pe_ix ix_list (pv 0) pe_int (fun _ _ => rfl)) pe_int (nomark _)) (pss_cons (ps_set (i := 4) sc_law_ball.nd rfl (by first | exact Or.inl rfl | exact Or.inr rfl) (pe_op op_mod (pe_int1 B.b_int (pe_ix ix_list (pv 0) pe_int (fun _ _ => rfl))) (pv 1))) (pss_cons (ps_asg (pe_op op_fdivW (pe_ix ix_list (pv 0) pe_int (fun _ _ => rfl)) (pv 1)) (pg_sub (pv 0) pe_int set_list)) (pss_one (ps_ret (pv 4))))) pss_nil) (pss_cons (ps_asg (pe_op op_add (pe_ix ix_list (pv 0) pe_int (fun _ _ => rfl)) pe_int) (pg_sub (pv 0) pe_int set_list)) (pss_cons (ps_set (i := 2) sc_law_ball.nd rfl (by first | exact Or.inl rfl | exact Or.inr rfl) (pe_op op_mod (pe_int1 B.b_int (pe_op op_add (pe_ix ix_list (pv 0) pe_int (fun _ _ => rfl)) (pe_op op_mul pe_int (pe_ix ix_list (pv 0) pe_int (fun _ _ => rfl))))) pe_int)) (pss_cons (ps_set (i := 3) sc_law_ball.nd rfl (by first | exact Or.inl rfl | exact Or.inr rfl) (pe_op op_add (pe_op op_mul (pe_op op_mod (pe_int1 B.b_int (pe_op op_add (pe_op op_mul (pv 2) (pv 2)) (pe_op op_mul pe_int (pe_ix ix_list (pv 0) pe_int (fun _ _ => rfl))))) pe_int) pe_int) (pv 2))) (pss_one (ps_ret (pe_op op_mod (pe_int1 B.b_int (pe_op op_fdivW (pv 3) pe_int)) (pv 1)))))))), fun U u => ?_⟩
  obtain ⟨hm0, hm1⟩ := id hm
  have fin : ∀ {te : TE} {ρ : List Sl} {N : List Sl → List Cell → Prop}, EvN ⟨CN, U, U, [u], 1⟩ te ρ [.urn] (fun x => 0 ≤ x ∧ x < m) → SvP ⟨CN, U, U, [u], 1⟩ (tRet te) ρ [.urn] N (fun d μ' => μ' = [.urn] ∧ ∃ r, d = .int r ∧ 0 ≤ r ∧ r < m) := fun h => sv_ret h fun d hd => ⟨rfl, hd⟩
  refine sv_seq (N1 := fun ρ' μ' => ρ' = [.c 0, .d (.int m), .no, .no, .no] ∧ μ' = [.urn]) (sv_ifN (PB := fun _ => True) (eb_TN (EvP.imp (en_cmp (en_urn (j := 0) rfl rfl (.inl rfl)) (en_is ev_int)) fun d hd => by
    obtain ⟨x, y, _, _, rfl⟩ := hd
    exact ⟨_, rfl, trivial⟩)) (fun _ => ?_) fun _ => sv_next ⟨rfl, rfl⟩) fun ρ' μ' h => ?_
  · refine sv_let (en_mod hm0 (en_int1 (en_urn (j := 0) rfl rfl (.inl rfl))) (ev_var rfl)) fun d hd => ?_
    obtain ⟨r, rfl, hr0⟩ := hd
    refine sv_seq (N1 := fun ρ' μ' => ρ' = [.c 0, .d (.int m), .no, .no, .d (.int r)] ∧ μ' = [.urn]) (sv_asg (en_div hm (en_urn (j := 0) rfl rfl (.inl rfl)) (ev_var rfl)) fun d hd => ?_) fun ρ' μ' h => ?_
    · obtain ⟨x, rfl, _⟩ := hd
      exact gv_urn (j := 0) rfl rfl (.inl rfl) ⟨rfl, rfl⟩
    · obtain ⟨rfl, rfl⟩ := h
      refine fin ?_
      exact en_of (ev_var rfl) hr0
  · obtain ⟨rfl, rfl⟩ := h
    refine sv_seq (N1 := fun ρ' μ' => ρ' = [.c 0, .d (.int m), .no, .no, .no] ∧ μ' = [.urn]) (sv_asg (en_add (en_urn (j := 0) rfl rfl (.inr (.inr rfl))) (en_is ev_int)) fun d hd => ?_) fun ρ' μ' h => ?_
    · obtain ⟨x, rfl, _⟩ := hd
      exact gv_urn (j := 0) rfl rfl (.inr (.inr rfl)) ⟨rfl, rfl⟩
    · obtain ⟨rfl, rfl⟩ := h
      refine sv_let (en_mod (m := 2305843009213693951) (by decide) (en_int1 (en_add (en_urn (j := 0) rfl rfl (.inr (.inl rfl))) (en_mulL (m := 67867979) (by decide) ev_int (en_urn (j := 0) rfl rfl (.inr (.inr rfl)))))) ev_int) fun d hd => ?_
      obtain ⟨x, rfl, hx0, hx1⟩ := hd
      refine sv_let (en_add (en_mulR (m := 7368791) (by decide) (en_mod (m := 2305843009213693907) (by decide) (en_int1 (en_add (en_mulL (m := x) (by omega) (ev_var rfl) (en_is (ev_var rfl))) (en_mulL (m := 139) (by decide) ev_int (en_urn (j := 0) rfl rfl (.inr (.inr rfl)))))) ev_int) ev_int) (en_is (ev_var rfl))) fun d hd => ?_
      obtain ⟨y, rfl, _⟩ := hd
      refine fin ?_
      exact en_mod hm0 (en_int1 (en_div (m := 65543) (by decide) (en_is (ev_var rfl)) ev_int)) (ev_var rfl)
theorem ok_law_taken (B : Bf mg) (C_law_ball : Cal P w K mg base CX0 1 "_law_ball" ["_law_urn_here", "_law_many"] (spBall CN)) (g : mg "_law_taken" = some (.ref f)) (F : FnP K "_law_taken" s_law_taken f fd) : Cal P w K mg base CX0 2 "_law_taken" ["_law_urn_here", "_law_items"] (spTaken CN) := by
  refine cal_mk g F (fun _ _ _ _ _ _ us hl => match us, hl with | [_, _], _ => rfl) (fn_urn _ _ _ F sc_law_taken (fun _ => rfl) fun cdv A outer s H E hr ds hd => ?_)
  refine ⟨_, (pss_one (ps_ret (pe_ix ix_list (pv 1) (pe_own C_law_ball (hr.mono (by decide)) rfl pass0 (pa_cons (pv 0) (pa_cons (pe_len B.b_len (pv 1)) pa_nil))) (fun _ _ => rfl)))), fun U u => ?_⟩
  obtain ⟨h0, h1⟩ := hd
  refine sv_ret (P := fun d => d ∈ ds) (ev_op (Pa := Is (.lst ds)) (Pb := fun d => ∃ r, d = .int r ∧ 0 ≤ r ∧ r < (ds.length : Int)) (ev_var rfl) (ev_callU (j := 0) (ds.length : Int) rfl rfl (ea_cons (ev_lenL (ev_var rfl)) ea_nil) (mOk_of (by omega) (by omega)) fun d h => h) fun x y hx hy => ?_) fun d hd => ⟨rfl, hd⟩
  obtain ⟨r, rfl, hr0, hr1⟩ := hy
  rw [show x = .lst ds from hx]
  have hat : atI ds r = some (ds[r.toNat]'(by omega)) := by
    have := atI_nat (xs := ds) (j := r.toNat) (v := ds[r.toNat]'(by omega)) (List.getElem?_eq_getElem _)
    rw [Int.toNat_of_nonneg hr0] at this
    exact this
  intro H μ s vx vy r1 r2 Q q
  exact od_ixL hat H μ s vx vy r1 r2 Q fun v H' d e r p => q v H' d e r (by rw [show d = _ from p]; exact List.getElem_mem _)
theorem ok_law_rise (B : Bf mg) (C_law_taken : Cal P w K mg base CX0 2 "_law_taken" ["_law_urn_here", "_law_items"] (spTaken CN)) (g : mg "_law_rise" = some (.ref f)) (F : FnP K "_law_rise" s_law_rise f fd) : Cal P w K mg base CX0 3 "_law_rise" ["_law_urn_here", "_law_far", "_law_size"] (spLRise CN) := by
  refine cal_mk g F (fun _ _ _ _ _ _ us hl => match us, hl with | [_, _, _], _ => rfl) (fn_urn _ _ _ F sc_law_rise (fun _ => rfl) fun cdv A outer s H E hr z hz => ?_)
  refine ⟨_, (pss_cons (ps_set (i := 3) sc_law_rise.nd rfl (by first | exact Or.inl rfl | exact Or.inr rfl) (pe_lst (pa_cons (pe_tup (pa_cons pe_str (pa_cons (pv 1) pa_nil))) (pa_cons (pe_tup (pa_cons pe_str (pa_cons (pe_un un_neg (pv 2)) pa_nil))) (pa_cons (pe_tup (pa_cons pe_str (pa_cons (pe_tup (pa_cons (pe_tup (pa_cons pe_int (pa_cons pe_int pa_nil))) pa_nil)) pa_nil))) pa_nil))))) (pss_one (ps_ret (pe_own C_law_taken (hr.mono (by decide)) rfl pass0 (pa_cons (pv 0) (pa_cons (pe_op op_cat (pv 3) (pe_lst (pa_cons (pe_tup (pa_cons pe_str (pa_cons (pe_tup (pa_cons (pe_tup (pa_cons (pe_un un_neg (pv 1)) (pa_cons pe_int pa_nil))) (pa_cons (pe_tup (pa_cons (pe_un un_neg (pv 1)) (pa_cons (pv 2) pa_nil))) pa_nil))) pa_nil))) pa_nil))) pa_nil)))))), fun U u => ?_⟩
  have two : ∀ {a b : D}, [a, b].length ≤ 1000 := Nat.le_of_ble_eq_true rfl
  refine sv_let1 (d := .lst [(Ri.lev 5).d, (Ri.plu (-4)).d, (Ri.cor false [(0, 0)]).d]) (ev_lst1 (ea_cons (ev_tup1 (ea_cons ev_str (ea_cons (ev_var rfl) ea_nil)) two) (ea_cons (ev_tup1 (ea_cons ev_str (ea_cons (ev_un (ev_var rfl)) ea_nil)) two) (ea_cons (ev_tup1 (ea_cons ev_str (ea_cons (ev_tup1 (ea_cons (ev_tup1 (ea_cons ev_int (ea_cons ev_int ea_nil)) two) ea_nil) (Nat.le_of_ble_eq_true rfl)) ea_nil)) two) ea_nil))) (Nat.le_of_ble_eq_true rfl)) ?_
  refine sv_ret (ev_callU (j := 0) ([(Ri.lev 5).d, (Ri.plu (-4)).d, (Ri.cor false [(0, 0)]).d] ++ [(Ri.cor true [(-5, 0), (-5, 4)]).d]) rfl rfl (ea_cons (ev_op1 (ev_var rfl) (ev_lst1 (ea_cons (ev_tup1 (ea_cons ev_str (ea_cons (ev_tup1 (ea_cons (ev_tup1 (ea_cons (ev_un (ev_var rfl)) (ea_cons ev_int ea_nil)) two) (ea_cons (ev_tup1 (ea_cons (ev_un (ev_var rfl)) (ea_cons (ev_var rfl) ea_nil)) two) ea_nil)) two) ea_nil)) two) ea_nil) (Nat.le_of_ble_eq_true rfl)) (od_catL (Nat.le_of_ble_eq_true rfl))) ea_nil) ⟨Nat.le_of_ble_eq_true rfl, Nat.le_of_ble_eq_true rfl⟩ fun d hd => hd) fun d hd => ⟨rfl, ?_⟩
  simp only [List.cons_append, List.nil_append, List.mem_cons, List.not_mem_nil, or_false] at hd
  rcases hd with rfl | rfl | rfl | rfl
  · exact ⟨_, by decide, rfl⟩
  · exact ⟨_, by decide, rfl⟩
  · exact ⟨_, by decide, rfl⟩
  · exact ⟨_, by decide, rfl⟩
theorem ok_law_wires (B : Bf mg) (C_law_ball : Cal P w K mg base CX0 1 "_law_ball" ["_law_urn_here", "_law_many"] (spBall CN)) (C_law_rise : Cal P w K mg base CX0 3 "_law_rise" ["_law_urn_here", "_law_far", "_law_size"] (spLRise CN)) (g : mg "_law_wires" = some (.ref f)) (F : FnP K "_law_wires" s_law_wires f fd) : Cal P w K mg base CX0 4 "_law_wires" ["_law_urn_here", "_law_knots", "_law_many", "_law_far", "_law_size"] (spLWires CN) := by
  refine cal_mk g F (fun _ _ _ _ _ _ us hl => match us, hl with | [_, _, _, _, _], _ => rfl) (fn_urn _ _ _ F sc_law_wires (fun _ => rfl) fun cdv A outer s H E hr z hz => ?_)
  obtain ⟨k, m⟩ := z
  obtain ⟨hk1, hk2, hm⟩ := hz
  replace hk1 : 1 ≤ k := hk1
  replace hk2 : k ≤ 12 := hk2
  replace hm : m ≤ 24 := hm
  refine ⟨_, (pss_cons (ps_set (i := 5) sc_law_wires.nd rfl (by first | exact Or.inl rfl | exact Or.inr rfl) (pe_lst pa_nil)) (pss_cons (ps_for PassesOwn.never rfl (pi_range1 rfl B.b_range (pa_cons (pe_ifExp (pt_cmpR op_gt (pv 1) pe_int (nomark _)) (pv 2) pe_int) pa_nil)) (pg_name (i := 6) sc_law_wires.nd rfl (by first | exact Or.inl rfl | exact Or.inr rfl)) (pss_cons (ps_set (i := 7) sc_law_wires.nd rfl (by first | exact Or.inl rfl | exact Or.inr rfl) (pe_own C_law_ball (hr.mono (by decide)) rfl pass0 (pa_cons (pv 0) (pa_cons (pv 1) pa_nil)))) (pss_cons (ps_set (i := 8) sc_law_wires.nd rfl (by first | exact Or.inl rfl | exact Or.inr rfl) (pe_op op_mod (pe_int1 B.b_int (pe_op op_add (pe_op op_add (pv 7) pe_int) (pe_own C_law_ball (hr.mono (by decide)) rfl pass0 (pa_cons (pv 0) (pa_cons (pe_op op_sub (pv 1) pe_int) pa_nil))))) (pv 1))) (pss_one (ps_expr (pe_bm PySem.F.plainAttrs_list PySem.F.slot_list_append PySem.F.type_list_append mt_append (pv 5) (pa_cons (pe_tup (pa_cons (pv 7) (pa_cons (pv 8) (pa_cons (pe_own C_law_rise (hr.mono (by decide)) rfl pass0 (pa_cons (pv 0) (pa_cons (pv 3) (pa_cons (pv 4) pa_nil)))) pa_nil)))) pa_nil))))))) (pss_one (ps_ret (pe_tuple B.b_tuple (pv 5)))))), fun U u => ?_⟩
  refine sv_new ef_nil fun p c fr e => ?_
  rw [show c = .ml [] from e]
  have hN : ∀ N : Int, (N = (m : Int) ∨ N = 0) → N.toNat ≤ m := fun N h => by omega
  refine sv_seq (N1 := fun ρ' μ' => ∃ ws : List Wi, ws.length ≤ m ∧ ws.all (Wi.ok k) = true ∧ μ' = [.urn, .ml (ws.map Wi.d)] ∧ ∃ a b c, ρ' = [.c 0, .d (.int (k : Int)), .d (.int (m : Int)), .d (.int 5), .d (.int 4), .c 1, a, b, c]) ?_ fun ρ' μ' h => ?_
  · have hcast : ((if 1 < k then m else 0 : Nat) : Int).toNat = if 1 < k then m else 0 := Int.toNat_natCast _
    refine sv_for (ds := upto ((if 1 < k then m else 0 : Nat) : Int).toNat) (fun i ρ' μ' => ∃ ws : List Wi, ws.length ≤ i ∧ ws.all (Wi.ok k) = true ∧ μ' = [.urn, .ml (ws.map Wi.d)] ∧ ∃ a b c, ρ' = [.c 0, .d (.int (k : Int)), .d (.int (m : Int)), .d (.int 5), .d (.int 4), .c 1, a, b, c]) (iv_rng (ea_cons (ev_if (b := decide ((1 : Int) < (k : Int))) (eb_T (ev_gt (ev_var rfl) ev_int)) (fun h => ?_) fun h => ?_) ea_nil) (by split <;> omega)) ⟨[], Nat.le_refl _, rfl, rfl, .no, .no, .no, rfl⟩ (fun i d ρ' μ' hd inv => ?_) fun ρ' μ' h => ?_
    · rw [decide_eq_true_eq] at h
      rw [if_pos (by omega)]
      exact ev_var rfl
    · rw [decide_eq_false_iff_not] at h
      rw [if_neg (by omega)]
      exact ev_int
    · obtain ⟨ws, hl, hall, rfl, a, b, c, rfl⟩ := inv
      have hi : i < (if 1 < k then m else 0) := by
        have := (List.getElem?_eq_some_iff.mp hd).1
        rw [upto_len, hcast] at this
        exact this
      have hk : 1 < k := by
        by_cases q : 1 < k
        · exact q
        · rw [if_neg q] at hi
          omega
      rw [if_pos hk] at hi
      refine gv_name (sv_let (ev_callU (j := 0) (k : Int) rfl rfl (ea_cons (ev_var rfl) ea_nil) (mOk_of (by omega) (by omega)) fun d h => h) fun d1 h1 => ?_)
      obtain ⟨t, rfl, ht0, ht1⟩ := h1
      refine sv_let (P := fun d => ∃ h, d = .int h ∧ 0 ≤ h ∧ h < (k : Int) ∧ h ≠ t) (en_op (Pa := fun x => t + 1 ≤ x ∧ x < t + k) (Pc := fun h => 0 ≤ h ∧ h < (k : Int) ∧ h ≠ t) (en_int1 (en_op0 (Pa := fun x => x = t + 1) (Pb := fun r => 0 ≤ r ∧ r < (k : Int) - 1) (en_of (ev_add (ev_var rfl) ev_int) rfl) (ev_callU (j := 0) ((k : Int) - 1) rfl rfl (ea_cons (ev_sub (ev_var rfl) ev_int) ea_nil) (mOk_of (by omega) (by omega)) fun d h => h) fun x r hx hr' => ?_)) (en_is (ev_var rfl)) fun x y hx hy => ?_) fun d2 h2 => ?_
      · show t + 1 ≤ x + r ∧ x + r < t + k
        omega
      · rw [hy]
        refine ⟨by omega, Int.emod_nonneg _ (by omega), Int.emod_lt_of_pos _ (by omega), fun e => ?_⟩
        by_cases q : x < (k : Int)
        · rw [Int.emod_eq_of_lt (by omega) q] at e
          omega
        · have : x % (k : Int) = x - k := by
            rw [← Int.sub_emod_right, Int.emod_eq_of_lt (by omega) (by omega)]
          omega
      · obtain ⟨h', rfl, hh0, hh1, hne⟩ := h2
        have htt : ((t.toNat : Nat) : Int) = t := Int.toNat_of_nonneg ht0
        have hhh : ((h'.toNat : Nat) : Int) = h' := Int.toNat_of_nonneg hh0
        refine sv_app (j := 1) (P := fun d => ∃ r : Ri, r.ok = true ∧ d = Wi.d ⟨t.toNat, h'.toNat, r⟩) rfl rfl (by rw [List.length_map]; omega) (EvP.imp (ev_tup (ea_consN (ev_var (x := .int t) rfl) (ea_consN (ev_var (x := .int h') rfl) (ea_consN (ev_callU (j := 0) () rfl rfl (ea_cons (ev_var rfl) (ea_cons (ev_var rfl) ea_nil)) trivial fun d h => h) ea_nil))) fun ds hd => ?_) fun d hd => ?_) fun d hd => ?_
        · obtain ⟨d1, r1, rfl, _, d2, r2, rfl, _, d3, r3, rfl, _, hr3⟩ := hd
          rw [show r3 = [] from hr3]
          exact Nat.le_of_ble_eq_true rfl
        · obtain ⟨ds, rfl, d1, r1, rfl, e1, d2, r2, rfl, e2, d3, r3, rfl, ⟨ri, hri, e3⟩, hr3⟩ := hd
          refine ⟨ri, hri, ?_⟩
          rw [show r3 = [] from hr3, show d1 = _ from e1, show d2 = _ from e2, e3]
          show D.tup [.int t, .int h', ri.d] = D.tup [.int ((t.toNat : Nat) : Int), .int ((h'.toNat : Nat) : Int), ri.d]
          rw [htt, hhh]
        · obtain ⟨ri, hri, rfl⟩ := hd
          refine ⟨ws ++ [⟨t.toNat, h'.toNat, ri⟩], by rw [List.length_append, List.length_singleton]; omega, ?_, ?_, _, _, _, rfl⟩
          · rw [List.all_append, hall, Bool.true_and]
            show (Wi.ok k ⟨t.toNat, h'.toNat, ri⟩ && true) = true
            unfold Wi.ok
            rw [hri, decide_eq_true (show t.toNat < k by omega), decide_eq_true (show h'.toNat < k by omega), decide_eq_true (show t.toNat ≠ h'.toNat by omega)]
            rfl
          · rw [List.map_append]
            rfl
    · rw [upto_len, hcast] at h
      obtain ⟨ws, hl, rest⟩ := h
      refine ⟨ws, ?_, rest⟩
      split at hl <;> omega
  · obtain ⟨ws, hl, hall, rfl, a, b, c, rfl⟩ := h
    refine sv_frz (μ := [.urn]) (c := .ml _) [5] (i := 5) fr (sv_ret1 (ev_cb1 (ev_var rfl) cb_tup) ⟨rfl, ws, rfl, hl, hall⟩)
end
end RN
end

section
set_option Elab.async false
set_option linter.all false
set_option maxRecDepth 100000
set_option maxHeartbeats 4000000
set_option autoImplicit false
set_option exponentiation.threshold 2000
/-! RN_L2: the law's draws of ranges. -/
namespace RN
open PySem PySem.Spec L2
def rgBd (M : Int) (r : Rg) : Prop := (∀ lo, r.1 = some lo → -M ≤ lo ∧ lo ≤ M) ∧ (∀ hi, r.2 = some hi → -M ≤ hi ∧ hi ≤ M) ∧ ∀ lo hi, r.1 = some lo → r.2 = some hi → lo ≤ hi
theorem rgBd_ok {M : Int} (hM : M < 10 ^ 60) {r : Rg} (h : rgBd M r) : rgOk r := ⟨fun lo e => by have := h.1 lo e; omega, fun hi e => by have := h.2.1 hi e; omega, h.2.2⟩
def rgOf (M : Int) (d : D) : Prop := ∃ r : Rg, d = rgD r ∧ rgBd M r
theorem rgOf_mk {M : Int} (a b : Option Int) (ha : ∀ x, a = some x → -M ≤ x ∧ x ≤ M) (hb : ∀ x, b = some x → -M ≤ x ∧ x ≤ M) (hab : ∀ x y, a = some x → b = some y → x ≤ y) : rgOf M (.tup [oD a, oD b]) := ⟨(a, b), rfl, ha, hb, hab⟩
abbrev spRange (CN : Addr) : Sp := spU (α := Int) CN (fun s => [.int s]) (fun s => 0 ≤ s ∧ s ≤ 2 * 10 ^ 59) fun s d => rgOf (2 * s) d
abbrev spFitting (CN : Addr) : Sp := spU (α := Int × Int) CN (fun z => [.int z.1, .int z.2]) (fun z => 0 ≤ z.2 ∧ z.2 ≤ 10 ^ 59 ∧ -(4 * 10 ^ 59) ≤ z.1 ∧ z.1 ≤ 4 * 10 ^ 59) fun z d => rgOf (5 * 10 ^ 59) d
def dropOf (hs : List Int) (x : Wi) : Int := hs.getD x.t 0 - hs.getD x.h 0
abbrev spDrops (CN : Addr) : Sp := spG (α := List Wi × List Int) CN (fun z => [wsD z.1, .lst (z.2.map D.int)]) (fun z => (∀ x ∈ z.1, x.t < z.2.length ∧ x.h < z.2.length) ∧ z.1.length ≤ 24) fun z => .lst ((z.1.map (dropOf z.2)).map D.int)
structure Sprd where
  ws : List Wi
  k : Nat
  size : Int
  sure : Bool
abbrev spSpread (CN : Addr) : Sp := spU (α := Sprd) CN (fun z => [wsD z.ws, .int (z.k : Int), .int z.size, .bl z.sure]) (fun z => z.ws.all (Wi.ok z.k) = true ∧ z.ws.length ≤ 24 ∧ z.k ≤ 12 ∧ 0 ≤ z.size ∧ z.size ≤ 10 ^ 59) fun z d => ∃ rs : List Rg, d = rsD rs ∧ rs.length = z.ws.length ∧ ∀ r ∈ rs, rgOk r
def Drawn1 (n : NetD) (rs : List Rg) : Prop := n.ok ∧ n.k ≤ 6 ∧ n.ws.length ≤ 9 ∧ rs.length = n.ws.length ∧ ∀ r ∈ rs, rgOk r
abbrev spDrawn (CN : Addr) : Sp := spU (α := Bool) CN (fun b => [.bl b]) (fun _ => True) fun _ d => ∃ n rs, Drawn1 n rs ∧ d = .tup [.int (n.k : Int), wsD n.ws, rsD rs]
section
variable {W : Wd} {ρ : List Sl} {μ : List Cell} {ta tb : TE} {P : D → Prop} {E : XK}
theorem ev_callUN {α : Type} {enc : α → List D} {ok : α → Prop} {post : α → D → Prop} {ta : TA} {PA : List D → Prop} {i j : Nat} (hr : ρ[i]? = some (.c j)) (hm : μ[j]? = some .urn) (ha : EvA W ta ρ μ PA) (h : ∀ ds, PA ds → ∃ z, ds = enc z ∧ ok z ∧ ∀ d, post z d → P d) :
    EvP W (tCall (spU W.CN enc ok post) [] E (tCons (tVar i) ta)) ρ μ P := fun σ H s Q q => by
  obtain ⟨a, ha', hσ⟩ := s.sl i _ hr
  refine ⟨.ref a, hσ, ha σ H s _ fun vs H1 ds e1 s1 r1 p1 => ?_⟩
  obtain ⟨z, rfl, h1, h2⟩ := h ds p1
  show spU W.CN enc ok post ((V.ref a :: vs) ++ []) H1 Q E
  rw [List.append_nil]
  obtain ⟨a', ha2, hu⟩ := s1.sto.cell j _ hm
  rw [ha'] at ha2
  cases ha2
  have hA : a ∈ W.A := List.mem_of_getElem? ha'
  refine ⟨W.U, a, vs, z, rfl, s.sto.sub a hA, s1.sto.uok, hu, r1, h1, fun v H' d e hu' r p => ?_⟩
  have kp : Kept W.U H1 H' := fun b o nb z => e b o (fun y => nb (by rw [List.mem_singleton.mp y]; exact s.sto.sub a hA)) z
  have e' : Ch W.A H1 H' := e.sub fun b hb => by rw [List.mem_singleton.mp hb]; exact hA
  refine q v H' d (e1.trans e') (s1.kept kp ⟨fun l c hc => ?_, fun b hb z => ?_, s.sto.vsub, s.sto.sub, s.sto.nd, s.sto.len, s.sto.n0⟩) r (h2 d p)
  · by_cases el : l = j
    · subst el
      rw [hm] at hc
      cases hc
      exact ⟨a, ha', hu'⟩
    · obtain ⟨b, hb, cb⟩ := s1.sto.cell l c hc
      exact ⟨b, hb, cb.stay kp fun o z => e b o (fun y => el (nd_ixA s.sto.nd hb (by rw [List.mem_singleton.mp y]; exact ha'))) z⟩
  · by_cases eb : b = a
    · obtain ⟨_, _, _, hz⟩ := hu'
      rw [eb, hz] at z
      cases z
    · cases q : H1 b with
      | none => exact s1.sto.uok b hb q
      | some o =>
        rw [e b o (fun y => eb (List.mem_singleton.mp y)) q] at z
        cases z
theorem ev_orVN {a : Bool} (h1 : EvP W ta ρ μ (Is (.bl a))) (h2 : EvP W tb ρ μ fun d => ∃ b, d = .bl b) : EvP W (tOrV ta tb) ρ μ fun d => ∃ b, d = .bl b := fun σ H s Q q =>
  h1 σ H s _ fun v1 H1 x' e1 s1 r1 p1 => by
    rw [show x' = .bl a from p1] at r1
    refine ⟨a, r1, ?_⟩
    cases a with
    | true => exact q _ H1 (.bl true) e1 s1 rfl ⟨true, rfl⟩
    | false => exact h2 σ H1 s1 Q fun v2 H2 d e2 s2 r2 p2 => q v2 H2 d (e1.trans e2) s2 r2 p2
theorem iv_listB {K : PySem.W.Frag} {ds : List D} (h : EvP W ta ρ μ (Is (.lst ds))) : IvP W (iList K ta) ρ μ (Is ds) := iv_list h
/-- a pair, a display -/
theorem ev_pairN {Pa Pb : D → Prop} (h1 : EvP W ta ρ μ Pa) (h2 : EvP W tb ρ μ Pb) : EvP W (tTup (tCons ta (tCons tb tNil))) ρ μ fun d => ∃ a b, d = .tup [a, b] ∧ Pa a ∧ Pb b := EvP.imp (ev_tup (ea_consN h1 (ea_consN h2 ea_nil)) fun ds hd => by
    obtain ⟨d1, r1, rfl, _, d2, r2, rfl, _, hr⟩ := hd
    rw [show r2 = [] from hr]
    exact Nat.le_of_ble_eq_true rfl) fun d hd => by
  obtain ⟨ds, rfl, d1, r1, rfl, p1, d2, r2, rfl, p2, hr⟩ := hd
  rw [show r2 = [] from hr]
  exact ⟨d1, d2, rfl, p1, p2⟩
/-- a display all of whose items are so -/
theorem ea_allN {ta : TA} {P : D → Prop} {te : TE} {n : Nat} (h : EvP W te ρ μ P) (hr : EvA W ta ρ μ fun ds => ds.length = n ∧ ∀ d ∈ ds, P d) : EvA W (tCons te ta) ρ μ fun ds => ds.length = n + 1 ∧ ∀ d ∈ ds, P d := EvA.imp (ea_consN h hr) fun ds hd => by
  obtain ⟨d, r, rfl, hp, hl, hall⟩ := hd
  exact ⟨by rw [List.length_cons, hl], fun e he => (List.mem_cons.mp he).elim (fun z => by rw [z]; exact hp) (hall e)⟩
theorem ea_all0 {P : D → Prop} : EvA W tNil ρ μ fun ds => ds.length = 0 ∧ ∀ d ∈ ds, P d := EvA.imp ea_nil fun ds hd => by
  rw [show ds = [] from hd]
  exact ⟨rfl, fun d h => absurd h List.not_mem_nil⟩
theorem ev_takeN {ta : TA} {P : D → Prop} {n : Nat} {i j : Nat} (hr : ρ[i]? = some (.c j)) (hm : μ[j]? = some .urn) (hn : 0 < n ∧ n ≤ 1000) (h : EvA W ta ρ μ fun ds => ds.length = n ∧ ∀ d ∈ ds, P d) : EvP W (tCall (spTaken W.CN) [] E (tCons (tVar i) (tCons (tLst ta) tNil))) ρ μ P :=
  ev_callUN hr hm (ea_consN (ev_lst h fun ds hd => by rw [hd.1]; exact hn.2) ea_nil) fun ds hd => by
    obtain ⟨d, r, rfl, ⟨es, rfl, hl, hall⟩, hr⟩ := hd
    rw [show r = [] from hr]
    exact ⟨es, rfl, ⟨by rw [hl]; exact hn.1, by rw [hl]; exact hn.2⟩, fun d h => hall d h⟩
end
section
variable {P : Program} {w : World} {K : PySem.W.Frag} {mg : Str → Option Value} {base : Heap} {CN CP : Addr} {f : Addr} {fd : FuncData}
theorem ok_law_range (B : Bf mg) (C_law_ball : Cal P w K mg base CX0 1 "_law_ball" ["_law_urn_here", "_law_many"] (spBall CN)) (C_law_taken : Cal P w K mg base CX0 2 "_law_taken" ["_law_urn_here", "_law_items"] (spTaken CN)) (g : mg "_law_range" = some (.ref f)) (F : FnP K "_law_range" s_law_range f fd) : Cal P w K mg base CX0 3 "_law_range" ["_law_urn_here", "_law_size"] (spRange CN) := by
  refine cal_mk g F (fun _ _ _ _ _ _ us hl => match us, hl with | [_, _], _ => rfl) (fn_urn _ _ _ F sc_law_range (fun _ => rfl) fun cdv A outer s H E hr z hz => ?_)
  obtain ⟨h0, h1⟩ := hz
  refine ⟨_, (pss_cons (ps_set (i := 2) sc_law_range.nd rfl (by first | exact Or.inl rfl | exact Or.inr rfl) (pe_op op_sub (pe_own C_law_ball (hr.mono (by decide)) rfl pass0 (pa_cons (pv 0) (pa_cons (pe_op op_add (pe_op op_mul pe_int (pv 1)) pe_int) pa_nil))) (pv 1))) (pss_one (ps_ret (pe_own C_law_taken (hr.mono (by decide)) rfl pass0 (pa_cons (pv 0) (pa_cons (pe_lst (pa_cons (pe_tup (pa_cons (pv 2) (pa_cons (pv 2) pa_nil))) (pa_cons (pe_tup (pa_cons (pv 2) (pa_cons (pe_op op_add (pv 2) (pe_own C_law_ball (hr.mono (by decide)) rfl pass0 (pa_cons (pv 0) (pa_cons (pe_op op_add (pv 1) pe_int) pa_nil)))) pa_nil))) (pa_cons (pe_tup (pa_cons (pv 2) (pa_cons pe_non pa_nil))) (pa_cons (pe_tup (pa_cons pe_non (pa_cons (pv 2) pa_nil))) (pa_cons (pe_tup (pa_cons pe_non (pa_cons pe_non pa_nil))) pa_nil)))))) pa_nil)))))), fun U u => ?_⟩
  refine sv_let (P := fun d => ∃ lo, d = .int lo ∧ -z ≤ lo ∧ lo ≤ z) (en_op0 (Pa := fun r => 0 ≤ r ∧ r < 2 * z + 1) (Pb := fun y => y = z) (ev_callU (j := 0) (2 * z + 1) rfl rfl (ea_cons (ev_add (ev_mul (.inl (by decide)) ev_int (ev_var rfl)) ev_int) ea_nil) (mOk_of (by omega) (by omega)) fun d h => h) (en_of (ev_var rfl) rfl) fun x y hx hy => by omega) fun d hd => ?_
  obtain ⟨lo, rfl, hl0, hl1⟩ := hd
  have eLo : ∀ {U : Addr → Prop} {u : Addr}, EvP ⟨CN, U, U, [u], 1⟩ (tVar 2) [.c 0, .d (.int z), .d (.int lo)] [.urn] (Is (.int lo)) := ev_var rfl
  have wrap : ∀ {d : D} (a b : Option Int), d = .tup [oD a, oD b] → (∀ x, a = some x → -(2 * z) ≤ x ∧ x ≤ 2 * z) → (∀ x, b = some x → -(2 * z) ≤ x ∧ x ≤ 2 * z) → (∀ x y, a = some x → b = some y → x ≤ y) → rgOf (2 * z) d := fun a b e h1 h2 h3 => e ▸ rgOf_mk a b h1 h2 h3
  have no : ∀ {p : Int → Prop} (x : Int), (none : Option Int) = some x → p x := fun x h => nomatch h
  have so : ∀ {p : Int → Prop} {l : Int}, p l → ∀ x, some l = some x → p x := fun h x e => by cases e; exact h
  refine sv_ret (ev_takeN (j := 0) (n := 5) rfl rfl (by decide) (ea_allN (EvP.imp (ev_pairN eLo eLo) fun d hd => ?_) (ea_allN (EvP.imp (ev_pairN eLo (en_op0 (Pa := fun x => x = lo) (Pb := fun r => 0 ≤ r ∧ r < z + 1) (Pc := fun y => lo ≤ y ∧ y ≤ lo + z) (en_of eLo rfl) (ev_callU (j := 0) (z + 1) rfl rfl (ea_cons (ev_add (ev_var rfl) ev_int) ea_nil) (mOk_of (by omega) (by omega)) fun d h => h) fun x y hx hy => by omega)) fun d hd => ?_)
    (ea_allN (EvP.imp (ev_pairN eLo ev_non) fun d hd => ?_) (ea_allN (EvP.imp (ev_pairN ev_non eLo) fun d hd => ?_) (ea_allN (EvP.imp (ev_pairN ev_non ev_non) fun d hd => ?_) ea_all0)))))) fun d hd => ⟨rfl, hd⟩
  · obtain ⟨a, b, e, rfl, rfl⟩ := hd
    exact wrap (some lo) (some lo) e (so (by omega)) (so (by omega)) fun x y e1 e2 => by cases e1; cases e2; omega
  · obtain ⟨a, b, e, rfl, y, rfl, hy⟩ := hd
    exact wrap (some lo) (some y) e (so (by omega)) (so (by omega)) fun x y e1 e2 => by cases e1; cases e2; omega
  · obtain ⟨a, b, e, rfl, rfl⟩ := hd
    exact wrap (some lo) none e (so (by omega)) no fun x y _ e2 => nomatch e2
  · obtain ⟨a, b, e, rfl, rfl⟩ := hd
    exact wrap none (some lo) e no (so (by omega)) fun x y e1 _ => nomatch e1
  · obtain ⟨a, b, e, rfl, rfl⟩ := hd
    exact wrap none none e no no fun x y e1 _ => nomatch e1
theorem ok_law_fitting_range (B : Bf mg) (C_law_ball : Cal P w K mg base CX0 1 "_law_ball" ["_law_urn_here", "_law_many"] (spBall CN)) (C_law_taken : Cal P w K mg base CX0 2 "_law_taken" ["_law_urn_here", "_law_items"] (spTaken CN)) (g : mg "_law_fitting_range" = some (.ref f)) (F : FnP K "_law_fitting_range" s_law_fitting_range f fd) : Cal P w K mg base CX0 3 "_law_fitting_range" ["_law_urn_here", "_law_number", "_law_size"] (spFitting CN) := by
  refine cal_mk g F (fun _ _ _ _ _ _ us hl => match us, hl with | [_, _, _], _ => rfl) (fn_urn _ _ _ F sc_law_fitting_range (fun _ => rfl) fun cdv A outer s H E hr z hz => ?_)
  obtain ⟨n, z⟩ := z
  obtain ⟨h0, h1, h2, h3⟩ := hz
  replace h0 : 0 ≤ z := h0
  replace h1 : z ≤ 10 ^ 59 := h1
  replace h2 : -(4 * 10 ^ 59) ≤ n := h2
  replace h3 : n ≤ 4 * 10 ^ 59 := h3
  refine ⟨_, (pss_cons (ps_par (i := 3) (j := 4) rfl sc_law_fitting_range.nd rfl rfl (by decide) rfl rfl (pa_cons (pe_op op_sub (pv 1) (pe_own C_law_ball (hr.mono (by decide)) rfl pass0 (pa_cons (pv 0) (pa_cons (pe_op op_add (pv 2) pe_int) pa_nil)))) (pa_cons (pe_op op_add (pv 1) (pe_own C_law_ball (hr.mono (by decide)) rfl pass0 (pa_cons (pv 0) (pa_cons (pe_op op_add (pv 2) pe_int) pa_nil)))) pa_nil)) (by rfl)) (pss_one (ps_ret (pe_own C_law_taken (hr.mono (by decide)) rfl pass0 (pa_cons (pv 0) (pa_cons (pe_lst (pa_cons (pe_tup (pa_cons (pv 1) (pa_cons (pv 1) pa_nil))) (pa_cons (pe_tup (pa_cons (pv 3) (pa_cons (pv 4) pa_nil))) (pa_cons (pe_tup (pa_cons (pv 1) (pa_cons (pv 4) pa_nil))) (pa_cons (pe_tup (pa_cons (pv 3) (pa_cons pe_non pa_nil))) (pa_cons (pe_tup (pa_cons pe_non (pa_cons (pv 4) pa_nil))) (pa_cons (pe_tup (pa_cons pe_non (pa_cons pe_non pa_nil))) pa_nil))))))) pa_nil)))))), fun U u => ?_⟩
  have eb : ∀ {U : Addr → Prop} {u : Addr}, EvN ⟨CN, U, U, [u], 1⟩ (tCall (spBall CN) [] E0 (tCons (tVar 0) (tCons (tOp (rI0 fun i j => .int (i + j)) (tVar 2) (tC (.int 1))) tNil))) [.c 0, .d (.int n), .d (.int z), .no, .no] [.urn] fun r => 0 ≤ r ∧ r < z + 1 := ev_callU (W := ⟨CN, _, _, [_], 1⟩) (j := 0) (z + 1) rfl rfl (ea_cons (ev_add (ev_var rfl) ev_int) ea_nil) (mOk_of (by omega) (by omega)) fun d h => h
  refine sv_seq (N1 := fun ρ' μ' => ∃ lo hi, lo ≤ n ∧ n ≤ hi ∧ n - z ≤ lo ∧ hi ≤ n + z ∧ ρ' = [.c 0, .d (.int n), .d (.int z), .d (.int lo), .d (.int hi)] ∧ μ' = [.urn]) (sv_par (Pa := fun d => ∃ lo, d = .int lo ∧ n - z ≤ lo ∧ lo ≤ n) (Pb := fun d => ∃ hi, d = .int hi ∧ n ≤ hi ∧ hi ≤ n + z) (en_op0 (Pa := fun x => x = n) (Pb := fun r => 0 ≤ r ∧ r < z + 1) (en_of (ev_var rfl) rfl) eb fun x y hx hy => by omega) (fun _ _ => en_op0 (Pa := fun x => x = n) (Pb := fun r => 0 ≤ r ∧ r < z + 1) (en_of (ev_var rfl) rfl) eb fun x y hx hy => by omega) fun d e hd he => ?_) fun ρ' μ' h => ?_
  · obtain ⟨lo, rfl, a1, a2⟩ := hd
    obtain ⟨hi, rfl, b1, b2⟩ := he
    exact ⟨lo, hi, a2, b1, a1, b2, rfl, rfl⟩
  · obtain ⟨lo, hi, a1, a2, a3, a4, rfl, rfl⟩ := h
    have wrap : ∀ {d : D} (a b : Option Int), d = .tup [oD a, oD b] → (∀ x, a = some x → -(5 * 10 ^ 59) ≤ x ∧ x ≤ 5 * 10 ^ 59) → (∀ x, b = some x → -(5 * 10 ^ 59) ≤ x ∧ x ≤ 5 * 10 ^ 59) → (∀ x y, a = some x → b = some y → x ≤ y) → rgOf (5 * 10 ^ 59) d := fun a b e h1 h2 h3 => e ▸ rgOf_mk a b h1 h2 h3
    have no : ∀ {p : Int → Prop} (x : Int), (none : Option Int) = some x → p x := fun x h => nomatch h
    have so : ∀ {p : Int → Prop} {l : Int}, p l → ∀ x, some l = some x → p x := fun h x e => by cases e; exact h
    have eN : ∀ {U : Addr → Prop} {u : Addr}, EvP ⟨CN, U, U, [u], 1⟩ (tVar 1) [.c 0, .d (.int n), .d (.int z), .d (.int lo), .d (.int hi)] [.urn] (Is (.int n)) := ev_var rfl
    have eL : ∀ {U : Addr → Prop} {u : Addr}, EvP ⟨CN, U, U, [u], 1⟩ (tVar 3) [.c 0, .d (.int n), .d (.int z), .d (.int lo), .d (.int hi)] [.urn] (Is (.int lo)) := ev_var rfl
    have eH : ∀ {U : Addr → Prop} {u : Addr}, EvP ⟨CN, U, U, [u], 1⟩ (tVar 4) [.c 0, .d (.int n), .d (.int z), .d (.int lo), .d (.int hi)] [.urn] (Is (.int hi)) := ev_var rfl
    refine sv_ret (ev_takeN (j := 0) (n := 6) rfl rfl (by decide) (ea_allN (EvP.imp (ev_pairN eN eN) fun d hd => ?_) (ea_allN (EvP.imp (ev_pairN eL eH) fun d hd => ?_) (ea_allN (EvP.imp (ev_pairN eN eH) fun d hd => ?_) (ea_allN (EvP.imp (ev_pairN eL ev_non) fun d hd => ?_) (ea_allN (EvP.imp (ev_pairN ev_non eH) fun d hd => ?_) (ea_allN (EvP.imp (ev_pairN ev_non ev_non) fun d hd => ?_) ea_all0))))))) fun d hd => ⟨rfl, hd⟩
    · obtain ⟨a, b, e, rfl, rfl⟩ := hd
      exact wrap (some n) (some n) e (so (by omega)) (so (by omega)) fun x y e1 e2 => by cases e1; cases e2; omega
    · obtain ⟨a, b, e, rfl, rfl⟩ := hd
      exact wrap (some lo) (some hi) e (so (by omega)) (so (by omega)) fun x y e1 e2 => by cases e1; cases e2; omega
    · obtain ⟨a, b, e, rfl, rfl⟩ := hd
      exact wrap (some n) (some hi) e (so (by omega)) (so (by omega)) fun x y e1 e2 => by cases e1; cases e2; omega
    · obtain ⟨a, b, e, rfl, rfl⟩ := hd
      exact wrap (some lo) none e (so (by omega)) no fun x y _ e2 => nomatch e2
    · obtain ⟨a, b, e, rfl, rfl⟩ := hd
      exact wrap none (some hi) e no (so (by omega)) fun x y e1 _ => nomatch e1
    · obtain ⟨a, b, e, rfl, rfl⟩ := hd
      exact wrap none none e no no fun x y e1 _ => nomatch e1
end
end RN
end

section
set_option Elab.async false
set_option linter.all false
set_option maxRecDepth 100000
set_option maxHeartbeats 4000000
set_option autoImplicit false
set_option exponentiation.threshold 2000
/-! RN_L3: the law's draws of nets. -/
namespace RN
open PySem PySem.Spec L2
def dropF (hs : List Int) : D → D
  | .tup [.int t, .int h, _] => .int (hs.getD t.toNat 0 - hs.getD h.toNat 0)
  | _ => .non
theorem dropF_eq (hs : List Int) (ws : List Wi) : (ws.map Wi.d).map (dropF hs) = (ws.map (dropOf hs)).map D.int := by
  rw [List.map_map, List.map_map]
  refine List.map_congr_left fun x _ => ?_
  show D.int (hs.getD ((x.t : Int)).toNat 0 - hs.getD ((x.h : Int)).toNat 0) = D.int (dropOf hs x)
  rw [Int.toNat_natCast, Int.toNat_natCast]
  rfl
theorem ints_at {hs : List Int} {j : Nat} (h : j < hs.length) : atI (hs.map D.int) (j : Int) = some (.int (hs.getD j 0)) := atI_nat (by rw [List.getElem?_map, List.getElem?_eq_getElem h, List.getD_eq_getElem?_getD, List.getElem?_eq_getElem h]; rfl)
section
variable {P : Program} {w : World} {K : PySem.W.Frag} {mg : Str → Option Value} {base : Heap} {CN CP : Addr} {f : Addr} {fd : FuncData}
theorem ok_law_drops (B : Bf mg) (g : mg "_law_drops" = some (.ref f)) (F : FnP K "_law_drops" s_law_drops f fd) : Cal P w K mg base CX0 1 "_law_drops" ["_law_wires_here", "_law_heights"] (spDrops CN) := by
  refine cal_mk g F (fun _ _ _ _ _ _ us hl => match us, hl with | [_, _], _ => rfl) (fn_N _ _ _ F sc_law_drops (fun _ => rfl) fun cdv A outer s H E hr z hz => ?_)
  obtain ⟨ws, hs⟩ := z
  obtain ⟨h1, h2⟩ := hz
  replace h2 : ws.length ≤ 24 := h2
  replace h1 : ∀ x ∈ ws, x.t < hs.length ∧ x.h < hs.length := h1
  refine ⟨_, (pss_one (ps_ret (pe_lc (own := [("_law_tail", 2), ("_law_head", 3), ("_law_rise_here", 4)]) (g := (gTup _ 3 (gCons (gName 2) (gCons (gName 3) (gCons (gName 4) gNil))))) rfl sc_law_drops.nd (pi_tup (pv 0)) (blkOk_by (own := [("_law_tail", 2), ("_law_head", 3), ("_law_rise_here", 4)]) (N := n_law_drops) (sc := defScope s_law_drops) (by decide +kernel)) (fun _ _ _ _ _ => (pg_tup rfl (pgs_cons (pg_name (i := 2) sc_law_drops.nd rfl (by first | exact Or.inl rfl | exact Or.inr rfl)) (pgs_cons (pg_name (i := 3) sc_law_drops.nd rfl (by first | exact Or.inl rfl | exact Or.inr rfl)) (pgs_cons (pg_name (i := 4) sc_law_drops.nd rfl (by first | exact Or.inl rfl | exact Or.inr rfl)) pgs_nil))))) (fun _ _ _ _ _ => pts_nil) (fun _ _ _ _ _ => (pe_op op_sub (pe_ix (ix_listK (K := K) rfl) (pv 1) (pv 2) (fun _ _ => rfl)) (pe_ix (ix_listK (K := K) rfl) (pv 1) (pv 3) (fun _ _ => rfl))))))), fun U => ?_⟩
  refine sv_ret1 (EvP.to (ev_map (f := dropF hs) (iv_tup (ds := ws.map Wi.d) (ev_var rfl)) (wp_tup (wps_cons (wp_name (by decide)) (wps_cons (wp_name (by decide)) (wps_cons (wp_name (by decide)) wps_nil)))) (by rw [List.length_map]; omega) fun i d p acc hd => ?_) (congrArg D.lst (dropF_eq hs ws))) rfl
  obtain ⟨x, hx, rfl⟩ := getMap hd
  obtain ⟨q1, q2⟩ := h1 x (List.mem_of_getElem? hx)
  refine (gv_tup rfl (gs_cons (gv_name (gs_cons (gv_name (gs_cons (gv_name (gs_nil ?_))))))))
  refine ⟨rfl, EvP.to (ev_sub (ev_op1 (ev_var rfl) (ev_var rfl) (od_ixL (ints_at q1))) (ev_op1 (ev_var rfl) (ev_var rfl) (od_ixL (ints_at q2)))) ?_⟩
  show D.int (hs.getD x.t 0 - hs.getD x.h 0) = D.int (hs.getD ((x.t : Int)).toNat 0 - hs.getD ((x.h : Int)).toNat 0)
  rw [Int.toNat_natCast, Int.toNat_natCast]
theorem drop_bd {hs : List Int} {M : Int} (hM : 0 ≤ M) (h : ∀ x ∈ hs, 0 ≤ x ∧ x ≤ M) (x : Wi) : -M ≤ dropOf hs x ∧ dropOf hs x ≤ M := by
  have hg : ∀ j, 0 ≤ hs.getD j 0 ∧ hs.getD j 0 ≤ M := fun j => by
    rw [List.getD_eq_getElem?_getD]
    cases q : hs[j]? with
    | none => exact ⟨Int.le_refl _, hM⟩
    | some y => exact h y (List.mem_of_getElem? q)
  have := hg x.t
  have := hg x.h
  unfold dropOf
  omega
theorem ok_law_spread (B : Bf mg) (C_law_ball : Cal P w K mg base CX0 1 "_law_ball" ["_law_urn_here", "_law_many"] (spBall CN)) (C_law_drops : Cal P w K mg base CX0 1 "_law_drops" ["_law_wires_here", "_law_heights"] (spDrops CN))
    (C_law_range : Cal P w K mg base CX0 3 "_law_range" ["_law_urn_here", "_law_size"] (spRange CN)) (C_law_fitting_range : Cal P w K mg base CX0 3 "_law_fitting_range" ["_law_urn_here", "_law_number", "_law_size"] (spFitting CN))
    (g : mg "_law_spread" = some (.ref f)) (F : FnP K "_law_spread" s_law_spread f fd) : Cal P w K mg base CX0 4 "_law_spread" ["_law_urn_here", "_law_wires_here", "_law_knots", "_law_size", "_law_is_sure"] (spSpread CN) := by
  refine cal_mk g F (fun _ _ _ _ _ _ us hl => match us, hl with | [_, _, _, _, _], _ => rfl) (fn_urn _ _ _ F sc_law_spread (fun _ => rfl) fun cdv A outer s H E hr z hz => ?_)
  obtain ⟨ws, k, size, sure⟩ := z
  obtain ⟨h1, h2, h3, h4, h5⟩ := hz
  replace h1 : ws.all (Wi.ok k) = true := h1
  replace h2 : ws.length ≤ 24 := h2
  replace h3 : k ≤ 12 := h3
  replace h4 : 0 ≤ size := h4
  replace h5 : size ≤ 10 ^ 59 := h5
  refine ⟨_, (pss_cons (ps_setLc (i := 5) (own := [("_law_knot", 9)]) (g := (gName 9)) rfl sc_law_spread.nd rfl rfl (sw_true rfl rfl rfl (by decide +kernel)) (pi_range1 rfl B.b_range (pa_cons (pv 2) pa_nil)) (blkOk_by (own := [("_law_knot", 9)]) (N := n_law_spread) (sc := defScope s_law_spread) (by decide +kernel)) (fun _ _ _ _ _ => (pg_name (i := 9) sc_law_spread.nd rfl (by first | exact Or.inl rfl | exact Or.inr rfl))) (fun _ _ _ _ _ => pts_nil) (fun _ _ _ _ _ => (pe_own C_law_ball (hr.mono (by decide)) rfl pass0 (pa_cons (pv 0) (pa_cons (pe_op op_add (pe_op op_mul pe_int (pv 3)) pe_int) pa_nil))))) (pss_cons (ps_set (i := 6) sc_law_spread.nd rfl (by first | exact Or.inl rfl | exact Or.inr rfl) (pe_lst pa_nil)) (pss_cons (ps_for PassesOwn.never rfl (pi_list (pe_own C_law_drops (hr.mono (by decide)) rfl pass0 (pa_cons (pv 1) (pa_cons (pv 5) pa_nil)))) (pg_name (i := 7) sc_law_spread.nd rfl (by first | exact Or.inl rfl | exact Or.inr rfl)) (pss_cons (ps_set (i := 8) sc_law_spread.nd rfl (by first | exact Or.inl rfl | exact Or.inr rfl) (pe_or (pv 4) (pe_one (pe_cmpR op_gt (pe_own C_law_ball (hr.mono (by decide)) rfl pass0 (pa_cons (pv 0) (pa_cons pe_int pa_nil))) pe_int (nomark _))))) (pss_one (ps_expr (pe_bm PySem.F.plainAttrs_list PySem.F.slot_list_append PySem.F.type_list_append mt_append (pv 6) (pa_cons (pe_ifExp (pt_val (pv 8)) (pe_own C_law_fitting_range (hr.mono (by decide)) rfl pass0 (pa_cons (pv 0) (pa_cons (pv 7) (pa_cons (pv 3) pa_nil)))) (pe_own C_law_range (hr.mono (by decide)) rfl pass0 (pa_cons (pv 0) (pa_cons (pe_op op_mul pe_int (pv 3)) pa_nil)))) pa_nil)))))) (pss_one (ps_ret (pe_tuple B.b_tuple (pv 6))))))), fun U u => ?_⟩
  refine sv_let (P := fun d => ∃ hs : List Int, d = .lst (hs.map D.int) ∧ hs.length = k ∧ ∀ x ∈ hs, 0 ≤ x ∧ x ≤ 4 * size) (EvP.imp (ev_lcN (PD := Is (upto ((k : Int)).toNat)) (fun _ i acc => ∃ hs : List Int, acc = hs.map D.int ∧ hs.length = i ∧ ∀ x ∈ hs, 0 ≤ x ∧ x ≤ 4 * size) (iv_rng (ea_cons (ev_var rfl) ea_nil) (by omega)) (wp_name (by decide)) (fun ds e => by rw [show ds = _ from e, upto_len]; omega) (fun ds e => ⟨[], rfl, rfl, fun x h => absurd h List.not_mem_nil⟩) fun ds i d p acc e hd inv => ?_) fun d hd => ?_) fun d hd => ?_
  · obtain ⟨hs, rfl, hl, hb⟩ := inv
    refine gv_name ⟨rfl, true, EvB.to eb_yes rfl, fun _ => EvP.imp (ev_callU (j := 0) (4 * size + 1) rfl rfl (ea_cons (ev_add (ev_mul (.inl (by decide)) ev_int (ev_var rfl)) ev_int) ea_nil) (mOk_of (by omega) (by omega)) fun d h => h) fun d hd => ?_, fun h => nomatch h⟩
    obtain ⟨r, rfl, r0, r1⟩ := hd
    refine ⟨hs ++ [r], by rw [List.map_append]; rfl, by rw [List.length_append, hl]; rfl, fun x hx => ?_⟩
    rcases List.mem_append.mp hx with h | h
    · exact hb x h
    · rw [List.mem_singleton.mp h]
      omega
  · obtain ⟨ds, es, e, rfl, _, hs, rfl, hl, hb⟩ := hd
    rw [show ds = _ from e, upto_len, Int.toNat_natCast] at hl
    exact ⟨hs, rfl, hl, hb⟩
  obtain ⟨hs, rfl, hl, hb⟩ := hd
  have hall : ∀ x ∈ ws, x.t < hs.length ∧ x.h < hs.length := fun x hx => by
    have := List.all_eq_true.mp h1 x hx
    unfold Wi.ok at this
    simp only [Bool.and_eq_true, decide_eq_true_eq] at this
    rw [hl]
    exact ⟨this.1.1.1, this.1.1.2⟩
  refine sv_new ef_nil fun p c fr e => ?_
  rw [show c = .ml [] from e]
  refine sv_seq (N1 := fun ρ' μ' => ∃ rs : List Rg, rs.length = ws.length ∧ (∀ r ∈ rs, rgOk r) ∧ μ' = [.urn, .ml (rs.map rgD)] ∧ ∃ a b c, ρ' = [.c 0, .d (wsD ws), .d (.int (k : Int)), .d (.int size), .d (.bl sure), .d (.lst (hs.map D.int)), .c 1, a, b, c])
    (sv_for (ds := (ws.map (dropOf hs)).map D.int) (fun i ρ' μ' => ∃ rs : List Rg, rs.length = i ∧ (∀ r ∈ rs, rgOk r) ∧ μ' = [.urn, .ml (rs.map rgD)] ∧ ∃ a b c, ρ' = [.c 0, .d (wsD ws), .d (.int (k : Int)), .d (.int size), .d (.bl sure), .d (.lst (hs.map D.int)), .c 1, a, b, c])
      (iv_list (ev_callG (ws, hs) (ea_cons (ev_var rfl) (ea_cons (ev_var rfl) ea_nil)) ⟨hall, h2⟩)) ⟨[], rfl, fun r h => absurd h List.not_mem_nil, rfl, .no, .no, .no, rfl⟩ (fun i d ρ' μ' hd inv => ?_) fun ρ' μ' h => ?_) fun ρ' μ' h => ?_
  · obtain ⟨rs, hrl, hrs, rfl, a, b, c, rfl⟩ := inv
    obtain ⟨v, hv, rfl⟩ := getMap hd
    obtain ⟨x, hx, rfl⟩ : ∃ x, ws[i]? = some x ∧ v = dropOf hs x := by
      rw [List.getElem?_map] at hv
      cases q : ws[i]? with
      | none => rw [q] at hv; cases hv
      | some x => rw [q] at hv; cases hv; exact ⟨x, rfl, rfl⟩
    have hlt : i < ws.length := (List.getElem?_eq_some_iff.mp hx).1
    have hbd := drop_bd (M := 4 * size) (by omega) hb x
    generalize dropOf hs x = n at hbd
    refine gv_name (sv_let (P := fun d => ∃ b, d = .bl b) (ev_orVN (a := sure) (ev_var rfl) (EvP.imp (en_cmp (ev_callU (j := 0) (4 : Int) rfl rfl (ea_cons ev_int ea_nil) (mOk_of (by decide) (by decide)) fun d h => h) (en_is ev_int)) fun d hd => by
      obtain ⟨x, y, _, _, rfl⟩ := hd
      exact ⟨_, rfl⟩)) fun d hd => ?_)
    obtain ⟨own, rfl⟩ := hd
    refine sv_app (j := 1) (P := fun d => ∃ r : Rg, d = rgD r ∧ rgOk r) rfl rfl (by rw [List.length_map]; omega) (ev_if (b := own) (eb_B (ev_var rfl)) (fun _ => ?_) fun _ => ?_) fun d hd => ?_
    · exact ev_callU (j := 0) (n, size) rfl rfl (ea_cons (ev_var rfl) (ea_cons (ev_var rfl) ea_nil)) ⟨h4, h5, by show -(4 * 10 ^ 59) ≤ n; omega, by show n ≤ 4 * 10 ^ 59; omega⟩ fun d h => by
        obtain ⟨r, rfl, hr⟩ := h
        exact ⟨r, rfl, rgBd_ok (by decide) hr⟩
    · exact ev_callU (j := 0) (2 * size) rfl rfl (ea_cons (ev_mul (.inl (by decide)) ev_int (ev_var rfl)) ea_nil) ⟨by omega, by omega⟩ fun d h => by
        obtain ⟨r, rfl, hr⟩ := h
        exact ⟨r, rfl, rgBd_ok (by omega) hr⟩
    · obtain ⟨r, rfl, hr⟩ := hd
      refine ⟨rs ++ [r], by rw [List.length_append, hrl]; rfl, fun q hq => ?_, by rw [List.map_append]; rfl, _, _, _, rfl⟩
      rcases List.mem_append.mp hq with h | h
      · exact hrs q h
      · rw [List.mem_singleton.mp h]
        exact hr
  · rw [List.length_map, List.length_map] at h
    exact h
  · obtain ⟨rs, hrl, hrs, rfl, a, b, c, rfl⟩ := h
    exact sv_frz (μ := [.urn]) (c := .ml _) [6] (i := 6) fr (sv_ret1 (ev_cb1 (ev_var rfl) cb_tup) ⟨rfl, rs, rfl, hrl, hrs⟩)
theorem ok_law_drawn (B : Bf mg) (C_law_ball : Cal P w K mg base CX0 1 "_law_ball" ["_law_urn_here", "_law_many"] (spBall CN)) (C_law_taken : Cal P w K mg base CX0 2 "_law_taken" ["_law_urn_here", "_law_items"] (spTaken CN))
    (C_law_wires : Cal P w K mg base CX0 4 "_law_wires" ["_law_urn_here", "_law_knots", "_law_many", "_law_far", "_law_size"] (spLWires CN)) (C_law_spread : Cal P w K mg base CX0 4 "_law_spread" ["_law_urn_here", "_law_wires_here", "_law_knots", "_law_size", "_law_is_sure"] (spSpread CN))
    (g : mg "_law_drawn" = some (.ref f)) (F : FnP K "_law_drawn" s_law_drawn f fd) : Cal P w K mg base CX0 5 "_law_drawn" ["_law_urn_here", "_law_is_sure"] (spDrawn CN) := by
  refine cal_mk g F (fun _ _ _ _ _ _ us hl => match us, hl with | [_, _], _ => rfl) (fn_urn _ _ _ F sc_law_drawn (fun _ => rfl) fun cdv A outer s H E hr sure hz => ?_)
  refine ⟨_, (pss_cons (ps_par (i := 3) (j := 4) rfl sc_law_drawn.nd rfl rfl (by decide) rfl rfl (pa_cons (pe_op op_add pe_int (pe_own C_law_ball (hr.mono (by decide)) rfl pass0 (pa_cons (pv 0) (pa_cons pe_int pa_nil)))) (pa_cons (pe_own C_law_taken (hr.mono (by decide)) rfl pass0 (pa_cons (pv 0) (pa_cons (pe_lst (pa_cons pe_int (pa_cons pe_int (pa_cons pe_int (pa_cons pe_int (pa_cons (pe_op op_powN pe_int pe_int) pa_nil)))))) pa_nil))) pa_nil)) (by rfl)) (pss_cons (ps_set (i := 2) sc_law_drawn.nd rfl (by first | exact Or.inl rfl | exact Or.inr rfl) (pe_own C_law_wires (hr.mono (by decide)) rfl pass0 (pa_cons (pv 0) (pa_cons (pv 3) (pa_cons (pe_own C_law_ball (hr.mono (by decide)) rfl pass0 (pa_cons (pv 0) (pa_cons pe_int pa_nil))) (pa_cons pe_int (pa_cons pe_int pa_nil))))))) (pss_one (ps_ret (pe_tup (pa_cons (pv 3) (pa_cons (pv 2) (pa_cons (pe_own C_law_spread (hr.mono (by decide)) rfl pass0 (pa_cons (pv 0) (pa_cons (pv 2) (pa_cons (pv 3) (pa_cons (pv 4) (pa_cons (pv 1) pa_nil)))))) pa_nil)))))))), fun U u => ?_⟩
  have hp : ∀ x ∈ [D.int 2, .int 5, .int 5, .int 1000, .int (10 ^ 59)], ∃ z : Int, x = .int z ∧ 0 ≤ z ∧ z ≤ 10 ^ 59 := fun x h => by
    simp only [List.mem_cons, List.not_mem_nil, or_false] at h
    rcases h with rfl | rfl | rfl | rfl | rfl
    · exact ⟨_, rfl, by decide, by decide⟩
    · exact ⟨_, rfl, by decide, by decide⟩
    · exact ⟨_, rfl, by decide, by decide⟩
    · exact ⟨_, rfl, by decide, by decide⟩
    · exact ⟨_, rfl, by decide, by decide⟩
  refine sv_seq (N1 := fun ρ' μ' => ∃ (k : Nat) (z : Int), 1 ≤ k ∧ k ≤ 6 ∧ 0 ≤ z ∧ z ≤ 10 ^ 59 ∧ ρ' = [.c 0, .d (.bl sure), .no, .d (.int (k : Int)), .d (.int z)] ∧ μ' = [.urn]) (sv_par (Pa := fun d => ∃ k, d = .int k ∧ 1 ≤ k ∧ k ≤ 6) (Pb := fun d => ∃ z, d = .int z ∧ 0 ≤ z ∧ z ≤ 10 ^ 59) (en_op0 (Pa := fun x => x = 1) (Pb := fun r => 0 ≤ r ∧ r < 6) (en_is ev_int) (ev_callU (j := 0) (6 : Int) rfl rfl (ea_cons ev_int ea_nil) (mOk_of (by decide) (by decide)) fun d h => h) fun x y hx hy => by omega) (fun _ _ => ev_callU (j := 0) [D.int 2, .int 5, .int 5, .int 1000, .int (10 ^ 59)] rfl rfl (ea_cons (ev_lst1 (ea_cons ev_int (ea_cons ev_int (ea_cons ev_int (ea_cons ev_int (ea_cons (EvP.to (ev_op1 ev_int ev_int (od_I (z := .int (10 ^ 59)) ⟨by decide, by decide⟩ fun _ => rfl)) rfl) ea_nil))))) (Nat.le_of_ble_eq_true rfl)) ea_nil) ⟨Nat.le_of_ble_eq_true rfl, Nat.le_of_ble_eq_true rfl⟩ hp) fun d e hd he => ?_) fun ρ' μ' h => ?_
  · obtain ⟨k, rfl, k1, k2⟩ := hd
    obtain ⟨z, rfl, z1, z2⟩ := he
    refine ⟨k.toNat, z, by omega, by omega, z1, z2, ?_, rfl⟩
    rw [Int.toNat_of_nonneg (by omega)]
    rfl
  · obtain ⟨k, z, k1, k2, z1, z2, rfl, rfl⟩ := h
    refine sv_let (P := fun d => ∃ ws : List Wi, d = wsD ws ∧ ws.length ≤ 9 ∧ ws.all (Wi.ok k) = true) (ev_callUN (j := 0) rfl rfl (ea_consN (ev_var rfl) (ea_consN (ev_callU (P := fun d => ∃ m : Int, d = .int m ∧ 0 ≤ m ∧ m < 10) (j := 0) (10 : Int) rfl rfl (ea_cons ev_int ea_nil) (mOk_of (by decide) (by decide)) fun d h => h) (ea_cons ev_int (ea_cons ev_int ea_nil)))) fun ds hd => ?_) fun d hd => ?_
    · obtain ⟨d1, r1, rfl, e1, d2, r2, rfl, ⟨m, rfl, m0, m1⟩, hr2⟩ := hd
      rw [show r2 = _ from hr2, show d1 = _ from e1]
      refine ⟨(k, m.toNat), ?_, ⟨k1, by show k ≤ 12; omega, by show m.toNat ≤ 24; omega⟩, fun d h => ?_⟩
      · show [D.int (k : Int), .int m, .int 5, .int 4] = [D.int (k : Int), .int ((m.toNat : Nat) : Int), .int 5, .int 4]
        rw [Int.toNat_of_nonneg m0]
      · obtain ⟨ws, rfl, hl, hall⟩ := h
        exact ⟨ws, rfl, by have : ws.length ≤ m.toNat := hl; omega, hall⟩
    · obtain ⟨ws, rfl, hl, hall⟩ := hd
      refine sv_ret (ev_tup (ea_consN (ev_var rfl) (ea_consN (ev_var rfl) (ea_consN (ev_callU (P := fun d => ∃ rs : List Rg, d = rsD rs ∧ rs.length = ws.length ∧ ∀ r ∈ rs, rgOk r) (j := 0) (Sprd.mk ws k z sure) rfl rfl (ea_cons (ev_var rfl) (ea_cons (ev_var rfl) (ea_cons (ev_var rfl) (ea_cons (ev_var rfl) ea_nil)))) ⟨hall, by show ws.length ≤ 24; omega, by show k ≤ 12; omega, z1, z2⟩ fun d h => h) ea_nil))) fun ds hd => ?_) fun d hd => ⟨rfl, ?_⟩
      · obtain ⟨d1, r1, rfl, _, d2, r2, rfl, _, d3, r3, rfl, _, hr3⟩ := hd
        rw [show r3 = [] from hr3]
        exact Nat.le_of_ble_eq_true rfl
      · obtain ⟨ds, rfl, d1, r1, rfl, e1, d2, r2, rfl, e2, d3, r3, rfl, ⟨rs, rfl, hrl, hrs⟩, hr3⟩ := hd
        rw [show r3 = [] from hr3, show d1 = _ from e1, show d2 = _ from e2]
        exact ⟨⟨k, ws⟩, rs, ⟨⟨k1, by show k ≤ 12; omega, by show ws.length ≤ 24; omega, hall⟩, k2, hl, hrl, hrs⟩, rfl⟩
end
end RN
end

section
set_option Elab.async false
set_option linter.all false
set_option maxRecDepth 100000
set_option maxHeartbeats 4000000
set_option autoImplicit false
/-! RN_DictT: dict(list of pairs), the keys pairs of numbers. -/
namespace L2
open PySem PySem.Spec PyProof.Rows
def mergeT (kvs more : List (List Key × V)) : List (List Key × V) := more.foldl (fun acc kv => putK acc kv.1 kv.2) kvs
theorem KT.merge {H : Hp} : ∀ {more : List (List Key × V)} {rs : List (List Key × Addr × Value)} {kvs : List (List Key × V)} {xs : List (List Key × Addr × Value)}, KT H more rs → KT H kvs xs → KT H (mergeT kvs more) (storedAllH xs rs)
  | [], _, kvs, xs, r, q => by
    cases r
    exact q
  | m :: more, _, kvs, xs, r, q => by
    cases r with
    | @cons _ b _ l h t =>
      obtain ⟨h1, h2, h3⟩ := h
      show KT H (mergeT (putK kvs m.1 m.2) more) (storedAllH (storedH xs b.1 b.2.1 b.2.2) l)
      refine KT.merge t ?_
      rw [← h1]
      exact q.put m.1 h2 h3
theorem length_mergeT : ∀ (more kvs : List (List Key × V)), (mergeT kvs more).length ≤ kvs.length + more.length
  | [], kvs => Nat.le_refl _
  | m :: more, kvs => by
    have h1 := length_mergeT more (putK kvs m.1 m.2)
    have h2 := length_putK kvs m.1 m.2
    show (mergeT (putK kvs m.1 m.2) more).length ≤ _
    rw [List.length_cons]
    omega
/-- a pair (key, value) at p -/
def PairT (K : PySem.W.Frag) (H : Hp) (p : Addr) (kv : List Key × V) : Prop := ∃ b, SqT K H p [.ref b, kv.2] ∧ H b = some (.tup (kv.1.map kV))
section
variable {X : Cx}
theorem pairsT_of {pins : List (Addr × Obj)} {σ : St} {H : Hp} {s : Shared} (I : Inv X pins σ H s) : ∀ {ps : List Addr} {kvs : List (List Key × V)}, Paired (PairT X.K H) ps kvs →
    ∃ prs : List (List Key × Addr × Value), KT H kvs prs ∧ prs.length = ps.length ∧ ∀ (j : Nat) (q : List Key × Addr × Value), prs[j]? = some q → ∃ b : Addr, ps[j]? = some b ∧ IsTup s.heap b #[.ref q.2.1, q.2.2]
  | _, _, .nil => ⟨[], .nil, rfl, fun j q e => by simp at e⟩
  | _, _, .cons (a := p) (b := kv) h t => by
    obtain ⟨prs, r, hl, hp⟩ := pairsT_of I t
    obtain ⟨b, h1, h2⟩ := h
    obtain ⟨its, rv, ht, _⟩ := I.tuple h1
    obtain ⟨u, y, ei, ru, ry⟩ := vals2 rv
    subst ei
    cases (show u = Value.ref b from ru)
    refine ⟨(kv.1, b, y) :: prs, .cons ⟨rfl, h2, ry⟩ r, by rw [List.length_cons, List.length_cons, hl], fun j q e => ?_⟩
    cases j with
    | zero =>
      have e' : (kv.1, b, y) = q := Option.some.inj e
      subst e'
      exact ⟨p, rfl, ht⟩
    | succ j =>
      obtain ⟨b, e1, e2⟩ := hp j q (by simpa using e)
      exact ⟨b, by simpa using e1, e2⟩
theorem KT.mem {H : Hp} : ∀ {kvs : List (List Key × V)} {xs : List (List Key × Addr × Value)}, KT H kvs xs → ∀ x ∈ xs, H x.2.1 = some (.tup (x.1.map kV))
  | _, _, .nil, x, h => nomatch h
  | _, _, .cons (b := q) h t, x, hx => by
    rcases List.mem_cons.mp hx with e | hx
    · subst e
      rw [← h.1]
      exact h.2.1
    · exact KT.mem t x hx
theorem call_dictT (hcalm : X.calm = true) (hu : X.A.units + 2 < cLine) : CallR X (.type "dict") (fun xs H Q => ∃ (a : Addr) (ps : List Addr) (kvs : List (List Key × V)), xs = [.ref a] ∧ SqL X.K H a (ps.map V.ref) ∧ Paired (PairT X.K H) ps kvs ∧
    ∀ p, H p = none → Q (.ref p) (upd H p (.dT (mergeT [] kvs)))) := by
  intro pins s σ H xs us Q I r q
  obtain ⟨a, ps, kvs, ex, hq, hp, q⟩ := q
  subst ex
  obtain ⟨u, eu, rx⟩ := vals1 r
  subst eu
  cases rx
  obtain ⟨its, rv, pl, hz⟩ := I.list hq
  have ei := refs_at rv
  subst ei
  rw [List.length_map] at hz
  obtain ⟨prs, rel, hl, hpr⟩ := pairsT_of I hp
  obtain ⟨o, n, ho, hc, hd, hdat⟩ := pl
  have hS : H s.heap.objs.size = none := I.hok.fresh (Nat.le_refl _)
  let ps' : List (Value × Value) := prs.map fun q => (Value.ref q.2.1, q.2.2)
  have hlen' : ps'.length = ps.length := by rw [List.length_map, hl]
  refine call_dict_pairsH (knd := tupleKind (mixKind X.prog X.w)) (ps := prs) (PairArg.list a (ps.map Value.ref).toArray (fun j => ps.getD j 0) ps') (I.ok.hd hcalm) (tupleKind_room_in1 (A := X.A.in1) (by show X.A.units + 1 + 1 < cLine; omega)) ⟨⟨o, n, ho, hc, hd, hdat⟩, by simp [hlen'], fun j k v e => ?_⟩ ⟨hlen'.symm ▸ hl, fun i key v e => ?_⟩ (fun h' hk x hx => ?_) (by rw [hlen']; exact hz) fun h' tk hd' k => ?_
  · rw [List.getElem?_map] at e
    cases z : prs[j]? with
    | none => rw [z] at e; cases e
    | some q =>
      rw [z] at e
      cases e
      obtain ⟨b, e1, e2⟩ := hpr j q z
      have eg : ps.getD j 0 = b := by rw [List.getD_eq_getElem?_getD, e1]; rfl
      obtain ⟨o2, h1, h2, n2, h3⟩ := e2
      show (ps.map Value.ref).toArray[j]? = some (Value.ref (ps.getD j 0)) ∧ PairAt s.heap (ps.getD j 0) _ _
      rw [eg]
      exact ⟨by simp [e1], .inl ⟨o2, h1, h2, n2, h3⟩⟩
  · rw [show PairRel ps' i key v = (ps'[i]? = some (key, v)) from rfl, List.getElem?_map] at e
    cases z : prs[i]? with
    | none => rw [z] at e; cases e
    | some q =>
      rw [z] at e
      cases e
      exact ⟨q.1, q.2.1, rfl, rfl⟩
  · have hx2 := KT.mem rel x hx
    obtain ⟨o2, its2, n2, h1, h2, h3, h4⟩ := key_of I.hok hx2
    exact ⟨o2, its2, n2, hk _ _ (Nat.ne_of_lt (Heap.lt_size h1)) (fun z => nomatch z) h1, h2, h3, h4⟩
  · have hm : (s.heap.objs.size == sysModules) = false := beq_eq_false_iff_ne.mpr (Nat.ne_of_gt I.big)
    have hlen : (mergeT [] kvs).length ≤ sizeLine := by
      refine Nat.le_trans (length_mergeT kvs []) ?_
      rw [List.length_nil, Nat.zero_add, Paired.length rel, hl]
      exact hz
    have k' : ∀ b o, s.heap.get? b = some o → h'.get? b = some o := fun b o e => k b o (fun z => nomatch z) e
    obtain ⟨q', es, ep, hq', h2, h3, h4, _, h5⟩ := hd'
    exact ⟨.ref s.heap.objs.size, upd H s.heap.objs.size (.dT (mergeT [] kvs)), I.laid (t' := tk) k' (Nat.le_refl _) (show ObjOk X.prog X.w _ _ _ (.dT (mergeT [] kvs)) from ⟨hlen, hm, _, (rel.merge .nil).keeps fun c ys ec => by
      rw [upd_ne (fun z => by rw [z, hS] at ec; cases ec)]
      exact ec, q', es, ep, hq', h2, h3, h4, h5⟩), rfl, q _ hS⟩
abbrev rDictT (K : PySem.W.Frag) : List V → Hp → VK → Prop := fun xs H Q => ∃ (a : Addr) (ps : List Addr) (kvs : List (List Key × V)), xs = [.ref a] ∧ SqL K H a (ps.map V.ref) ∧ Paired (PairT K H) ps kvs ∧
    ∀ p, H p = none → Q (.ref p) (upd H p (.dT (mergeT [] kvs)))
theorem pe_dictT {p pos : Pos} {a : Expr} {ta : TE} (hc : X.calm = true) (hu : X.A.units + 2 < cLine) (hm : X.mg "dict" = none) (ha : PE X a ta) (hg : Gl X "dict" := by rfl) (h1 : starEach [a] X.env = (false, eval a X.env) :: starEach [] X.env := by rfl) :
    PE X (.Call (.Name "dict" p) [a] [] pos) (tCB (rDictT X.K) (tCons ta tNil)) :=
  pe_callTy (call_dictT hc hu) hg hm PyProof.Rows.boot_dict (pa_cons ha pa_nil h1) (by decide) (by decide) h1 (by rfl)
end
end L2
namespace RN
open PySem PySem.Spec L2
def ent (e : (Nat × Nat) × Int) : D := .tup [.tup [.int (e.1.1 : Int), .int (e.1.2 : Int)], .int e.2]
def entK (e : (Nat × Nat) × Int) : List Key × V := ([Sum.inl (e.1.1 : Int), Sum.inl (e.1.2 : Int)], .int e.2)
def upAll (l : List ((Nat × Nat) × Int)) (f : Nat → Nat → Option Int) : Nat → Nat → Option Int := l.foldl (fun f e => up2 f e.1.1 e.1.2 e.2) f
theorem ent_pairs {K : PySem.W.Frag} {CN : Addr} {U : Addr → Prop} {H : Hp} : ∀ {l : List ((Nat × Nat) × Int)} {vs : List V}, RpL CN U H (l.map ent) vs → ∃ ps : List Addr, vs = ps.map V.ref ∧ Paired (PairT K H) ps (l.map entK)
  | [], vs, h => ⟨[], h, .nil⟩
  | e :: l, vs, h => by
    obtain ⟨v, r, rfl, ⟨a, xs, rfl, _, ha, w1, r1, rfl, ⟨b, ys, rfl, _, hb, rk⟩, w2, r2, rfl, e2, e3⟩, ht⟩ := h
    obtain ⟨ps, rfl, hp⟩ := ent_pairs (K := K) ht
    cases (show w2 = V.int e.2 from e2)
    cases (show r2 = [] from e3)
    have hk := RpL.ints (ns := [(e.1.1 : Int), (e.1.2 : Int)]) rk
    rw [hk] at hb
    exact ⟨a :: ps, rfl, .cons ⟨b, .inl (.inl ha), hb⟩ hp⟩
theorem dtr_put {c : Nat} {f : Nat → Nat → Option Int} {kvs : List (List Key × V)} (h : DtR c f kvs) (p q : Nat) (l : Int) : DtR (c + 1) (up2 f p q l) (putK kvs [Sum.inl (p : Int), Sum.inl (q : Int)] (.int l)) := by
  obtain ⟨h1, h2⟩ := h
  refine ⟨by have := length_putK kvs [Sum.inl (p : Int), Sum.inl (q : Int)] (.int l); omega, fun i j => ?_⟩
  rw [valV_put]
  unfold up2
  by_cases e : i = p ∧ j = q
  · obtain ⟨rfl, rfl⟩ := e
    rw [if_pos rfl, if_pos ⟨rfl, rfl⟩]
    rfl
  · rw [if_neg e, if_neg fun z => e ?_]
    · exact h2 i j
    · simp only [List.cons.injEq, Sum.inl.injEq, Int.natCast_inj, and_true] at z
      exact z
theorem dtr_all : ∀ (l : List ((Nat × Nat) × Int)) {c : Nat} {f : Nat → Nat → Option Int} {kvs : List (List Key × V)}, DtR c f kvs → DtR (c + l.length) (upAll l f) (mergeT kvs (l.map entK))
  | [], c, f, kvs, h => h
  | e :: l, c, f, kvs, h => by
    have := dtr_all l (dtr_put h e.1.1 e.1.2 e.2)
    rw [List.length_cons, Nat.add_comm l.length 1, ← Nat.add_assoc]
    exact this
theorem ef_dictT {W : Wd} {ρ : List Sl} {μ : List Cell} {ta : TE} {K : PySem.W.Frag} {l : List ((Nat × Nat) × Int)} (ha : EvP W ta ρ μ (Is (.lst (l.map ent)))) : EvF W (tCB (rDictT K) (tCons ta tNil)) ρ μ (Is (.dt l.length (upAll l fun _ _ => none))) := fun σ H s Q q =>
  ha σ H s _ fun v H1 d e1 s1 r1 p1 => by
    rw [show d = _ from p1] at r1
    obtain ⟨a, xs, rfl, nU, ea, rl⟩ := r1
    obtain ⟨ps, rfl, hp⟩ := ent_pairs (K := K) rl
    refine ⟨a, ps, l.map entK, rfl, .inl (.inl ea), hp, fun p hp' => ?_⟩
    have hnone : H p = none := by
      cases z : H p with
      | none => rfl
      | some o =>
        by_cases hA : p ∈ W.A
        · exact absurd hp' (s1.sto.uok p (s1.sto.sub p hA))
        · rw [e1 p o hA z] at hp'
          cases hp'
    refine q p (upd H1 p (.dT (mergeT [] (l.map entK)))) _ hnone (e1.trans (Ch.of (same_new hp'))) (s1.ext hp' ?_) rfl
    refine ⟨_, by unfold upd; rw [if_pos rfl], ?_⟩
    have := dtr_all l (c := 0) (f := fun _ _ => none) (kvs := []) ⟨Nat.le_refl _, fun i j => rfl⟩
    rw [Nat.zero_add] at this
    exact this
end RN
end

section
set_option Elab.async false
set_option linter.all false
set_option maxRecDepth 100000
set_option maxHeartbeats 4000000
set_option autoImplicit false
/-! RN_L4: the law's links and lengths. -/
namespace RN
open PySem PySem.Spec L2
abbrev spLLinks (CN : Addr) : Sp := spG (α := List Wi × List Rg) CN (fun z => [wsD z.1, rsD z.2]) (fun z => z.2.length = z.1.length ∧ z.1.length ≤ 24) fun z => lksD (linksOf z.1 z.2)
abbrev spLengths (CN : Addr) : Sp := spN (α := Nat × List Lk) CN (fun z => [.int (z.1 : Int), lksD z.2]) (fun z => z.1 ≤ 6 ∧ z.2.length ≤ 48 ∧ ∀ e ∈ z.2, LkOk z.1 e) fun z d => ∃ c, d = .tup [.dt c (fwAll z.1 z.2), .bl (isLet z.1 z.2)]
def fw0l (k : Nat) : List ((Nat × Nat) × Int) := (List.range k).map fun i => ((i, i), 0)
theorem upAll_fw0 (k : Nat) : upAll (fw0l k) (fun _ _ => none) = fw0 k := by
  unfold fw0l
  induction k with
  | zero =>
    funext i j
    show none = fw0 0 i j
    unfold fw0
    rw [if_neg (by omega)]
  | succ k ih =>
    rw [List.range_succ, List.map_append]
    unfold upAll at ih ⊢
    rw [List.foldl_append, ih]
    funext i j
    show up2 (fw0 k) k k 0 i j = fw0 (k + 1) i j
    unfold up2 fw0
    by_cases h : i = k ∧ j = k
    · rw [if_pos h, if_pos (by omega)]
    · rw [if_neg h]
      by_cases q : i = j ∧ i < k
      · rw [if_pos q, if_pos (by omega)]
      · rw [if_neg q, if_neg (by omega)]
theorem fwL_succ {f : Mat} {ls : List Lk} {i : Nat} {e : Lk} (h : ls[i]? = some e) : fwL f (ls.take (i + 1)) = fwPut (fwL f (ls.take i)) e.a e.b e.l := by
  unfold fwL
  rw [List.take_add_one, h, List.foldl_append]
  rfl
section
variable {P : Program} {w : World} {K : PySem.W.Frag} {mg : Str → Option Value} {base : Heap} {CN CP : Addr} {f : Addr} {fd : FuncData}
theorem ok_law_links (B : Bf mg) (g : mg "_law_links" = some (.ref f)) (F : FnP K "_law_links" s_law_links f fd) : Cal P w K mg base CX0 1 "_law_links" ["_law_wires_here", "_law_ranges"] (spLLinks CN) := by
  refine cal_mk g F (fun _ _ _ _ _ _ us hl => match us, hl with | [_, _], _ => rfl) (fn_N _ _ _ F sc_law_links (fun _ => rfl) fun cdv A outer s H E hr z hz => ?_)
  obtain ⟨ws, rs⟩ := z
  obtain ⟨hlen, h24⟩ := hz
  replace hlen : rs.length = ws.length := hlen
  replace h24 : ws.length ≤ 24 := h24
  refine ⟨_, (pss_cons (ps_set (i := 2) sc_law_links.nd rfl (by first | exact Or.inl rfl | exact Or.inr rfl) (pe_lst pa_nil)) (pss_cons (ps_for PassesOwn.never rfl (pi_enumzip (c1 := true) (c2 := true) rfl B.b_enumerate rfl B.b_zip (pa_cons (pv 0) (pa_cons (pv 1) pa_nil))) (pg_tup rfl (pgs_cons (pg_name (i := 3) sc_law_links.nd rfl (by first | exact Or.inl rfl | exact Or.inr rfl)) (pgs_cons (pg_name (i := 4) sc_law_links.nd rfl (by first | exact Or.inl rfl | exact Or.inr rfl)) pgs_nil))) (pss_cons (ps_asg (pv 4) (pg_tup rfl (pgs_cons (pg_tup rfl (pgs_cons (pg_name (i := 5) sc_law_links.nd rfl (by first | exact Or.inl rfl | exact Or.inr rfl)) (pgs_cons (pg_name (i := 6) sc_law_links.nd rfl (by first | exact Or.inl rfl | exact Or.inr rfl)) (pgs_cons (pg_name (i := 7) sc_law_links.nd rfl (by first | exact Or.inl rfl | exact Or.inr rfl)) pgs_nil)))) (pgs_cons (pg_tup rfl (pgs_cons (pg_name (i := 8) sc_law_links.nd rfl (by first | exact Or.inl rfl | exact Or.inr rfl)) (pgs_cons (pg_name (i := 9) sc_law_links.nd rfl (by first | exact Or.inl rfl | exact Or.inr rfl)) pgs_nil))) pgs_nil)))) (pss_cons (ps_set (i := 2) sc_law_links.nd rfl (by first | exact Or.inl rfl | exact Or.inr rfl) (pe_op op_cat (pv 2) (pe_ifExp (pt_cmp (pc_notN (pv 8))) (pe_lst (pa_cons (pe_tup (pa_cons (pv 5) (pa_cons (pv 6) (pa_cons (pe_un un_neg (pv 8)) (pa_cons (pe_tup (pa_cons (pv 3) (pa_cons pe_int pa_nil))) pa_nil))))) pa_nil)) (pe_lst pa_nil)))) (pss_one (ps_set (i := 2) sc_law_links.nd rfl (by first | exact Or.inl rfl | exact Or.inr rfl) (pe_op op_cat (pv 2) (pe_ifExp (pt_cmp (pc_notN (pv 9))) (pe_lst (pa_cons (pe_tup (pa_cons (pv 6) (pa_cons (pv 5) (pa_cons (pv 9) (pa_cons (pe_tup (pa_cons (pv 3) (pa_cons (pe_un un_neg pe_int) pa_nil))) pa_nil))))) pa_nil)) (pe_lst pa_nil)))))))) (pss_one (ps_ret (pv 2))))), fun U => ?_⟩
  refine sv_let1 (d := .lst []) (ev_lst1 ea_nil (Nat.zero_le _)) ?_
  refine sv_seq (N1 := fun ρ' μ' => μ' = [] ∧ ∃ a b c d e g h, ρ' = [.d (wsD ws), .d (rsD rs), .d (.lst ((linksOf ws rs).map Lk.d)), a, b, c, d, e, g, h]) (sv_for (ds := enumD (zipD (ws.map Wi.d) (rs.map rgD))) (fun i ρ' μ' => μ' = [] ∧ ∃ a b c d e g h, ρ' = [.d (wsD ws), .d (rsD rs), .d (.lst ((lkUp ws rs i).map Lk.d)), a, b, c, d, e, g, h])
    (iv_enumzip (c1 := true) (c2 := true) (ea_cons (ev_var rfl) (ea_cons (ev_var rfl) ea_nil))) ⟨rfl, .no, .no, .no, .no, .no, .no, .no, rfl⟩ (fun i d ρ' μ' hd inv => ?_) fun ρ' μ' h => ?_) fun ρ' μ' h => ?_
  · obtain ⟨rfl, a, b, c, d', e', g', h', rfl⟩ := inv
    obtain ⟨d0, h0, rfl⟩ := enumD_getV hd
    obtain ⟨d1, d2, q1, q2, rfl⟩ := zipD_getV h0
    obtain ⟨x, hx, rfl⟩ := getMap q1
    obtain ⟨r, hrr, rfl⟩ := getMap q2
    obtain ⟨lo, hi⟩ := r
    have hz : (lkUp ws rs i).length ≤ 2 * i := lkUp_len ws rs i
    have hi24 : i < ws.length := (List.getElem?_eq_some_iff.mp hx).1
    have hnext : lkUp ws rs (i + 1) = lkUp ws rs i ++ lkAt ws rs i := lkUp_succ ws rs i
    rw [lkAt_eq hx hrr] at hnext
    refine (gv_tup rfl (gs_cons (gv_name (gs_cons (gv_name (gs_nil ?_))))))
    refine sv_seq (N1 := fun ρ' μ' => μ' = [] ∧ ρ' = [.d (wsD ws), .d (rsD rs), .d (.lst ((lkUp ws rs i).map Lk.d)), .d (.int (i : Int)), .d (.tup [x.d, rgD (lo, hi)]), .d (.int (x.t : Int)), .d (.int (x.h : Int)), .d x.r.d, .d (oD lo), .d (oD hi)]) (sv_asg (P := Is (.tup [x.d, rgD (lo, hi)])) (ev_var rfl) fun d e => ?_) fun ρ' μ' h => ?_
    · rw [show d = _ from e]
      refine (gv_tup rfl (gs_cons (gv_tup rfl (gs_cons (gv_name (gs_cons (gv_name (gs_cons (gv_name (gs_nil (gs_cons (gv_tup rfl (gs_cons (gv_name (gs_cons (gv_name (gs_nil (gs_nil ?_))))))))))))))))))
      exact ⟨rfl, rfl⟩
    · obtain ⟨rfl, rfl⟩ := h
      have hlo := loL_len x i lo
      have two : ∀ {a b : D}, [a, b].length ≤ 1000 := Nat.le_of_ble_eq_true rfl
      have four : ∀ {a b c d : D}, [a, b, c, d].length ≤ 1000 := Nat.le_of_ble_eq_true rfl
      refine sv_let1 (d := .lst ((lkUp ws rs i ++ loL x i lo).map Lk.d)) (EvP.to (ev_op1 (ev_var rfl) (ev_if (P := Is (.lst ((loL x i lo).map Lk.d))) (b := !lo.isNone) (EvB.to (eb_B (ev_notN (ev_var rfl))) (congrArg not (isN_oD lo))) (fun hb => ?_) fun hb => ?_) (od_catL (by rw [List.length_map, List.length_map]; omega))) (congrArg D.lst (List.map_append ..).symm)) ?_
      · cases lo with
        | none => cases hb
        | some lo => exact ev_lst1 (ea_cons (ev_tup1 (ea_cons (ev_var rfl) (ea_cons (ev_var rfl) (ea_cons (ev_un (ev_var rfl)) (ea_cons (ev_tup1 (ea_cons (ev_var rfl) (ea_cons ev_int ea_nil)) two) ea_nil)))) four) ea_nil) (Nat.le_of_ble_eq_true rfl)
      · cases lo with
        | none => exact ev_lst1 ea_nil (Nat.zero_le _)
        | some lo => cases hb
      refine sv_set (P := Is (.lst (((lkUp ws rs i ++ loL x i lo) ++ hiL x i hi).map Lk.d))) (EvP.to (ev_op1 (ev_var rfl) (ev_if (P := Is (.lst ((hiL x i hi).map Lk.d))) (b := !hi.isNone) (EvB.to (eb_B (ev_notN (ev_var rfl))) (congrArg not (isN_oD hi))) (fun hb => ?_) fun hb => ?_) (od_catL (by rw [List.length_map, List.length_map, List.length_append]; have := hiL_len x i hi; omega))) (congrArg D.lst (List.map_append ..).symm)) fun d e => ?_
      · cases hi with
        | none => cases hb
        | some hi => exact ev_lst1 (ea_cons (ev_tup1 (ea_cons (ev_var rfl) (ea_cons (ev_var rfl) (ea_cons (ev_var rfl) (ea_cons (ev_tup1 (ea_cons (ev_var rfl) (ea_cons (ev_un ev_int) ea_nil)) two) ea_nil)))) four) ea_nil) (Nat.le_of_ble_eq_true rfl)
      · cases hi with
        | none => exact ev_lst1 ea_nil (Nat.zero_le _)
        | some hi => cases hb
      · rw [show d = _ from e, hnext, ← List.append_assoc]
        exact ⟨rfl, _, _, _, _, _, _, _, rfl⟩
  · have he : (enumD (zipD (ws.map Wi.d) (rs.map rgD))).length = ws.length := by
      rw [enumD_len]
      unfold zipD
      rw [List.length_map, List.length_zip, List.length_map, List.length_map, hlen, Nat.min_self]
    rw [he] at h
    exact h
  · obtain ⟨rfl, a, b, c, d, e, g, h, rfl⟩ := h
    exact sv_ret1 (ev_var rfl) rfl
theorem plnL_all {ds : List D} (h : ∀ d ∈ ds, d.pln = true) : plnL ds = true := by
  induction ds with
  | nil => rfl
  | cons d ds ih =>
    show (d.pln && plnL ds) = true
    rw [h d List.mem_cons_self, ih fun e he => h e (List.mem_cons_of_mem _ he)]
    rfl
theorem pln_upto (b : D → Bool) (n : Nat) : (D.lst ((upto n).filter b)).pln = true := plnL_all fun d hd => by
  obtain ⟨i, _, rfl⟩ := List.mem_map.mp (List.mem_filter.mp hd).1
  rfl
theorem isLet_filt (k : Nat) (ls : List Lk) : (((upto k).filter fun d => match d with
    | .int i => decide ((fwAll k ls i.toNat i.toNat).getD 0 < 0)
    | _ => false).map id).isEmpty = isLet k ls := by
  rw [List.map_id]
  unfold isLet upto
  rw [List.filter_map, List.isEmpty_map, Bool.eq_iff_iff, List.isEmpty_iff, List.filter_eq_nil_iff, List.all_eq_true]
  refine forall_congr' fun i => forall_congr' fun hi => ?_
  show ¬ decide ((fwAll k ls ((i : Int)).toNat ((i : Int)).toNat).getD 0 < 0) = true ↔ _
  rw [Int.toNat_natCast, decide_eq_true_eq]
  cases fwAll k ls i i with
  | none => exact ⟨fun _ => rfl, fun _ => by decide⟩
  | some x =>
    show ¬ x < 0 ↔ decide (0 ≤ x) = true
    rw [decide_eq_true_eq]
    omega
theorem eb_low {W : Wd} {ρ : List Sl} {μ : List Cell} {c p q i j m : Nat} {g : Mat} {x y : Nat} {l : Int} (hr : ρ[i]? = some (.c j)) (hm : μ[j]? = some (.dt c g)) (h1 : ∀ U, EvP ⟨W.CN, U, U, [], 0⟩ (tVar x) (lookR ρ i (.dt c g)) [] (Is (.int (p : Int)))) (h2 : ∀ U, EvP ⟨W.CN, U, U, [], 0⟩ (tVar y) (lookR ρ i (.dt c g)) [] (Is (.int (q : Int))))
    (h3 : ∀ U, EvP ⟨W.CN, U, U, [], 0⟩ (tVar m) (lookR ρ i (.dt c g)) [] (Is (.int l))) (h4 : ∀ U, EvP ⟨W.CN, U, U, [], 0⟩ (tVar i) (lookR ρ i (.dt c g)) [] (Is (.dt c g))) :
    EvB W (tOr (tTest (tDNotIn (tTup (tCons (tVar x) (tCons (tVar y) tNil))) (tVar i))) (tTest (tOp (rI0 fun i j => .bl (decide (i < j))) (tVar m) (tDGet (tVar i) (tTup (tCons (tVar x) (tCons (tVar y) tNil))))))) ρ μ (Is (fwLow g p q l)) := by
  refine eb_look hr hm rfl fun U => ?_
  have ek : EvP ⟨W.CN, U, U, [], 0⟩ (tTup (tCons (tVar x) (tCons (tVar y) tNil))) (lookR ρ i (.dt c g)) [] (Is (.tup [.int (p : Int), .int (q : Int)])) := ev_tup1 (ea_cons (h1 U) (ea_cons (h2 U) ea_nil)) (Nat.le_of_ble_eq_true rfl)
  cases hv : g p q with
  | none => exact EvB.to (eb_or (a := true) (b := true) (EvB.to (eb_T (ev_dnotinT ek (h4 U))) (by rw [hv]; rfl)) fun h => nomatch h) (by unfold fwLow; rw [hv]; rfl)
  | some v => exact EvB.to (eb_or (a := false) (b := decide (l < v)) (EvB.to (eb_T (ev_dnotinT ek (h4 U))) (by rw [hv]; rfl)) fun _ => eb_T (ev_lt (h3 U) (ev_dgetT (h4 U) ek hv))) (by unfold fwLow; rw [hv]; rfl)
theorem ok_law_lengths (B : Bf mg) (g : mg "_law_lengths" = some (.ref f)) (F : FnP K "_law_lengths" s_law_lengths f fd) : Cal P w K mg base CX0 1 "_law_lengths" ["_law_knots", "_law_links_here"] (spLengths CN) := by
  refine cal_mk g F (fun _ _ _ _ _ _ us hl => match us, hl with | [_, _], _ => rfl) (fn_N _ _ _ F sc_law_lengths (fun _ => rfl) fun cdv A outer s H E hr z hz => ?_)
  obtain ⟨k, ls⟩ := z
  obtain ⟨hk, hl, hls⟩ := hz
  replace hk : k ≤ 6 := hk
  replace hl : ls.length ≤ 48 := hl
  replace hls : ∀ e ∈ ls, LkOk k e := hls
  refine ⟨_, (pss_cons (ps_set (i := 2) sc_law_lengths.nd rfl (by first | exact Or.inl rfl | exact Or.inr rfl) (pe_dictT rfl (Nat.lt_of_le_of_lt (Nat.add_le_add_left (by decide) _) hr.units) B.b_dict (pe_lc (own := [("_law_one", 4)]) (g := (gName 4)) rfl sc_law_lengths.nd (pi_range1 rfl B.b_range (pa_cons (pv 0) pa_nil)) (blkOk_by (own := [("_law_one", 4)]) (N := n_law_lengths) (sc := defScope s_law_lengths) (by decide +kernel)) (fun _ _ _ _ _ => (pg_name (i := 4) sc_law_lengths.nd rfl (by first | exact Or.inl rfl | exact Or.inr rfl))) (fun _ _ _ _ _ => pts_nil) (fun _ _ _ _ _ => (pe_tup (pa_cons (pe_tup (pa_cons (pv 4) (pa_cons (pv 4) pa_nil))) (pa_cons pe_int pa_nil))))))) (pss_cons (ps_for PassesOwn.never rfl (pi_list (pv 1)) (pg_tup rfl (pgs_cons (pg_name (i := 4) sc_law_lengths.nd rfl (by first | exact Or.inl rfl | exact Or.inr rfl)) (pgs_cons (pg_name (i := 5) sc_law_lengths.nd rfl (by first | exact Or.inl rfl | exact Or.inr rfl)) (pgs_cons (pg_name (i := 6) sc_law_lengths.nd rfl (by first | exact Or.inl rfl | exact Or.inr rfl)) (pgs_cons (pg_name (i := 7) sc_law_lengths.nd rfl (by first | exact Or.inl rfl | exact Or.inr rfl)) pgs_nil))))) (pss_one (ps_if (PW.pt (pw_or (pt_cmp (pc_dnotin (hu_of hr) (pe_tup (pa_cons (pv 4) (pa_cons (pv 5) pa_nil))) (pv 2))) (pw_or1 (pt_cmpR op_lt (pv 6) (pe_dget (hu_of hr) (pv 2) (pe_tup (pa_cons (pv 4) (pa_cons (pv 5) pa_nil))) (fun _ _ => rfl)) (nomark _))))) (pss_one (ps_dput (hu_of hr) (pv 2) (pe_tup (pa_cons (pv 4) (pa_cons (pv 5) pa_nil))) (pv 6) rfl)) pss_nil))) (pss_cons (ps_for PassesOwn.never rfl (pi_range1 rfl B.b_range (pa_cons (pv 0) pa_nil)) (pg_name (i := 3) sc_law_lengths.nd rfl (by first | exact Or.inl rfl | exact Or.inr rfl)) (pss_one (ps_for PassesOwn.never rfl (pi_range1 rfl B.b_range (pa_cons (pv 0) pa_nil)) (pg_name (i := 4) sc_law_lengths.nd rfl (by first | exact Or.inl rfl | exact Or.inr rfl)) (pss_one (ps_for PassesOwn.never rfl (pi_range1 rfl B.b_range (pa_cons (pv 0) pa_nil)) (pg_name (i := 5) sc_law_lengths.nd rfl (by first | exact Or.inl rfl | exact Or.inr rfl)) (pss_one (ps_if (PW.pt (pw_and (pt_cmp (pc_din (hu_of hr) (pe_tup (pa_cons (pv 4) (pa_cons (pv 3) pa_nil))) (pv 2))) (pw_and1 (pt_cmp (pc_din (hu_of hr) (pe_tup (pa_cons (pv 3) (pa_cons (pv 5) pa_nil))) (pv 2)))))) (pss_cons (ps_set (i := 6) sc_law_lengths.nd rfl (by first | exact Or.inl rfl | exact Or.inr rfl) (pe_op op_add (pe_dget (hu_of hr) (pv 2) (pe_tup (pa_cons (pv 4) (pa_cons (pv 3) pa_nil))) (fun _ _ => rfl)) (pe_dget (hu_of hr) (pv 2) (pe_tup (pa_cons (pv 3) (pa_cons (pv 5) pa_nil))) (fun _ _ => rfl)))) (pss_one (ps_if (PW.pt (pw_or (pt_cmp (pc_dnotin (hu_of hr) (pe_tup (pa_cons (pv 4) (pa_cons (pv 5) pa_nil))) (pv 2))) (pw_or1 (pt_cmpR op_lt (pv 6) (pe_dget (hu_of hr) (pv 2) (pe_tup (pa_cons (pv 4) (pa_cons (pv 5) pa_nil))) (fun _ _ => rfl)) (nomark _))))) (pss_one (ps_dput (hu_of hr) (pv 2) (pe_tup (pa_cons (pv 4) (pa_cons (pv 5) pa_nil))) (pv 6) rfl)) pss_nil))) pss_nil))))))) (pss_one (ps_ret (pe_tup (pa_cons (pv 2) (pa_cons (pe_cmpR (op_eqP hr.units) (pe_lc (own := [("_law_one", 4)]) (g := (gName 4)) rfl sc_law_lengths.nd (pi_range1 rfl B.b_range (pa_cons (pv 0) pa_nil)) (blkOk_by (own := [("_law_one", 4)]) (N := n_law_lengths) (sc := defScope s_law_lengths) (by decide +kernel)) (fun _ _ _ _ _ => (pg_name (i := 4) sc_law_lengths.nd rfl (by first | exact Or.inl rfl | exact Or.inr rfl))) (fun _ _ _ _ _ => (pts_one (pt_cmpR op_lt (pe_dget (hu_of hr) (pv 2) (pe_tup (pa_cons (pv 4) (pa_cons (pv 4) pa_nil))) (fun _ _ => rfl)) pe_int (nomark _)))) (fun _ _ _ _ _ => (pv 4))) (pe_lst pa_nil) (nomark _)) pa_nil)))))))), fun U => ?_⟩
  refine sv_new (ef_dictT (l := fw0l k) (EvP.to (ev_map (f := fun d => match d with | .int i => ent ((i.toNat, i.toNat), 0) | _ => .non) (iv_rng (ea_cons (ev_var rfl) ea_nil) (by omega)) (wp_name (by decide)) (by rw [upto_len]; omega) fun i d p acc hd => ?_) (congrArg D.lst ?_))) fun p c fr e => ?_
  · have hi : i < k := by
      have := (List.getElem?_eq_some_iff.mp hd).1
      rw [upto_len, Int.toNat_natCast] at this
      exact this
    rw [upto_get (by rw [Int.toNat_natCast]; exact hi)] at hd
    cases hd
    exact gv_name ⟨rfl, ev_tup1 (ea_cons (ev_tup1 (ea_cons (ev_var rfl) (ea_cons (ev_var rfl) ea_nil)) (Nat.le_of_ble_eq_true rfl)) (ea_cons ev_int ea_nil)) (Nat.le_of_ble_eq_true rfl)⟩
  · unfold upto fw0l
    rw [Int.toNat_natCast, List.map_map, List.map_map]
    rfl
  rw [show c = _ from e, upAll_fw0, show (fw0l k).length = k from by unfold fw0l; rw [List.length_map, List.length_range]]
  refine sv_seq (N1 := fun ρ' μ' => ∃ c, c ≤ 54 ∧ μ' = [.dt c (fwL (fw0 k) ls)] ∧ ∃ x1 x2 x3 x4 x5, ρ' = [.d (.int (k : Int)), .d (lksD ls), .c 0, x1, x2, x3, x4, x5]) (sv_for (ds := ls.map Lk.d) (fun i ρ' μ' => ∃ c, c ≤ 6 + i ∧ μ' = [.dt c (fwL (fw0 k) (ls.take i))] ∧ ∃ x1 x2 x3 x4 x5, ρ' = [.d (.int (k : Int)), .d (lksD ls), .c 0, x1, x2, x3, x4, x5])
    (iv_list (ev_var rfl)) ⟨k, by omega, rfl, .no, .no, .no, .no, .no, rfl⟩ (fun i d ρ' μ' hd inv => ?_) fun ρ' μ' h => ?_) fun ρ' μ' h => ?_
  · obtain ⟨c, hc, rfl, x1, x2, x3, x4, x5, rfl⟩ := inv
    obtain ⟨e, he, rfl⟩ := getMap hd
    have hlt := (List.getElem?_eq_some_iff.mp he).1
    refine (gv_tup rfl (gs_cons (gv_name (gs_cons (gv_name (gs_cons (gv_name (gs_cons (gv_name (gs_nil ?_))))))))))
    refine sv_if (b := fwLow (fwL (fw0 k) (ls.take i)) e.a e.b e.l) (eb_low rfl rfl (fun U => ev_var rfl) (fun U => ev_var rfl) (fun U => ev_var rfl) (fun U => ev_var rfl)) (fun hb => ?_) fun hb => ?_
    · refine sv_dputT (j := 0) rfl rfl (by omega) (ev_tup1 (ea_cons (ev_var rfl) (ea_cons (ev_var rfl) ea_nil)) (Nat.le_of_ble_eq_true rfl)) (ev_var rfl) ⟨c + 1, by omega, ?_, _, _, _, _, _, rfl⟩
      rw [fwL_succ he]
      unfold fwPut
      rw [if_pos hb]
      rfl
    · refine sv_next ⟨c, by omega, ?_, _, _, _, _, _, rfl⟩
      rw [fwL_succ he]
      unfold fwPut
      rw [if_neg (by rw [hb]; decide)]
  · rw [List.length_map, List.take_length] at h
    obtain ⟨c, hc, rest⟩ := h
    exact ⟨c, by omega, rest⟩
  obtain ⟨c, hc, rfl, x1, x2, x3, x4, x5, rfl⟩ := h
  have hup : ∀ {i : Nat} {d : D}, (upto ((k : Int)).toNat)[i]? = some d → i < k ∧ d = .int (i : Int) := fun {i d} hd => by
    have hi := (List.getElem?_eq_some_iff.mp hd).1
    rw [upto_len, Int.toNat_natCast] at hi
    rw [upto_get (by rw [Int.toNat_natCast]; exact hi)] at hd
    cases hd
    exact ⟨hi, rfl⟩
  have hcast : ((k : Int)).toNat = k := Int.toNat_natCast k
  refine sv_seq (N1 := fun ρ' μ' => ∃ c, c ≤ 900 ∧ μ' = [.dt c (fwAll k ls)] ∧ ∃ x1 x2 x3 x4 x5, ρ' = [.d (.int (k : Int)), .d (lksD ls), .c 0, x1, x2, x3, x4, x5]) (sv_for (ds := upto ((k : Int)).toNat) (fun m ρ' μ' => ∃ c, c ≤ 54 + 36 * m ∧ μ' = [.dt c (fwM k (fwL (fw0 k) ls) m)] ∧ ∃ x1 x2 x3 x4 x5, ρ' = [.d (.int (k : Int)), .d (lksD ls), .c 0, x1, x2, x3, x4, x5])
    (iv_rng (ea_cons (ev_var rfl) ea_nil) (by omega)) ⟨c, by omega, rfl, _, _, _, _, _, rfl⟩ (fun m d ρ' μ' hd inv => ?_) fun ρ' μ' h => ?_) fun ρ' μ' h => ?_
  · obtain ⟨hm, rfl⟩ := hup hd
    obtain ⟨c, hc, rfl, x1, x2, x3, x4, x5, rfl⟩ := inv
    generalize fwL (fw0 k) ls = f0
    refine gv_name (sv_for (ds := upto ((k : Int)).toNat) (fun i ρ' μ' => ∃ c, c ≤ 54 + 36 * m + 6 * i ∧ μ' = [.dt c (fwI k (fwM k f0 m) m i)] ∧ ∃ x2 x3 x4 x5, ρ' = [.d (.int (k : Int)), .d (lksD ls), .c 0, .d (.int (m : Int)), x2, x3, x4, x5])
      (iv_rng (ea_cons (ev_var rfl) ea_nil) (by omega)) ⟨c, by omega, rfl, _, _, _, _, rfl⟩ (fun i d ρ' μ' hd inv => ?_) fun ρ' μ' h => ?_)
    · obtain ⟨hi, rfl⟩ := hup hd
      obtain ⟨c, hc, rfl, x2, x3, x4, x5, rfl⟩ := inv
      rw [show fwI k (fwM k f0 m) m (i + 1) = fwO (fwI k (fwM k f0 m) m i) m i k from rfl]
      generalize fwI k (fwM k f0 m) m i = f1
      refine gv_name (sv_for (ds := upto ((k : Int)).toNat) (fun j ρ' μ' => ∃ c, c ≤ 54 + 36 * m + 6 * i + j ∧ μ' = [.dt c (fwO f1 m i j)] ∧ ∃ x3 x4 x5, ρ' = [.d (.int (k : Int)), .d (lksD ls), .c 0, .d (.int (m : Int)), .d (.int (i : Int)), x3, x4, x5])
        (iv_rng (ea_cons (ev_var rfl) ea_nil) (by omega)) ⟨c, by omega, rfl, _, _, _, rfl⟩ (fun j d ρ' μ' hd inv => ?_) fun ρ' μ' h => ?_)
      · obtain ⟨hj, rfl⟩ := hup hd
        obtain ⟨c, hc, rfl, x3, x4, x5, rfl⟩ := inv
        show GvP _ _ _ _ _ _
        have hstep : fwO f1 m i (j + 1) = fwStep (fwO f1 m i j) m i j := rfl
        rw [hstep]
        generalize fwO f1 m i j = f2
        refine gv_name ?_
        have two : ∀ {a b : D}, [a, b].length ≤ 1000 := Nat.le_of_ble_eq_true rfl
        have skip : fwStep f2 m i j = f2 → SvP (Wd.ext ⟨CN, U, U, [], 0⟩ p) tNext [.d (.int (k : Int)), .d (lksD ls), .c 0, .d (.int (m : Int)), .d (.int (i : Int)), .d (.int (j : Int)), x4, x5] [.dt c f2] (fun ρ' μ' => ∃ c, c ≤ 54 + 36 * m + 6 * i + (j + 1) ∧ μ' = [.dt c (fwStep f2 m i j)] ∧ ∃ x3 x4 x5, ρ' = [.d (.int (k : Int)), .d (lksD ls), .c 0, .d (.int (m : Int)), .d (.int (i : Int)), x3, x4, x5]) (fun d _ => ∃ c, d = .tup [.dt c (fwAll k ls), .bl (isLet k ls)]) := fun e => sv_next ⟨c, by omega, by rw [e], _, _, _, rfl⟩
        refine sv_if (b := (f2 i m).isSome && (f2 m j).isSome) (eb_look (i := 2) (j := 0) rfl rfl rfl fun U' => eb_and (eb_T (ev_dinT (ev_tup1 (ea_cons (ev_var rfl) (ea_cons (ev_var rfl) ea_nil)) two) (ev_var rfl))) fun _ => eb_T (ev_dinT (ev_tup1 (ea_cons (ev_var rfl) (ea_cons (ev_var rfl) ea_nil)) two) (ev_var rfl))) (fun hb => ?_) fun hb => ?_
        · cases v1 : f2 i m with
          | none => rw [v1] at hb; cases hb
          | some x =>
            cases v2 : f2 m j with
            | none => rw [v1, v2] at hb; cases hb
            | some y =>
              have e : fwStep f2 m i j = fwPut f2 i j (x + y) := by unfold fwStep; rw [v1, v2]
              refine sv_let1 (d := .int (x + y)) (ev_look1 (i := 2) (j := 0) rfl rfl rfl (fun U' => ev_add (ev_dgetT (ev_var rfl) (ev_tup1 (ea_cons (ev_var rfl) (ea_cons (ev_var rfl) ea_nil)) two) v1) (ev_dgetT (ev_var rfl) (ev_tup1 (ea_cons (ev_var rfl) (ea_cons (ev_var rfl) ea_nil)) two) v2)) rfl) ?_
              refine sv_if (b := fwLow f2 i j (x + y)) (eb_low rfl rfl (fun U => ev_var rfl) (fun U => ev_var rfl) (fun U => ev_var rfl) (fun U => ev_var rfl)) (fun hb => ?_) fun hb => ?_
              · refine sv_dputT (j := 0) rfl rfl (by omega) (ev_tup1 (ea_cons (ev_var rfl) (ea_cons (ev_var rfl) ea_nil)) two) (ev_var rfl) ⟨c + 1, by omega, ?_, _, _, _, rfl⟩
                rw [e]
                unfold fwPut
                rw [if_pos hb]
                rfl
              · refine sv_next ⟨c, by omega, ?_, _, _, _, rfl⟩
                rw [e]
                unfold fwPut
                rw [if_neg (by rw [hb]; decide)]
        · refine skip ?_
          unfold fwStep
          cases v1 : f2 i m with
          | none => rfl
          | some x =>
            cases v2 : f2 m j with
            | none => rfl
            | some y => rw [v1, v2] at hb; cases hb
      · rw [upto_len, hcast] at h
        obtain ⟨c, hc, e, x3, x4, x5, rfl⟩ := h
        exact ⟨c, by omega, e, _, _, _, _, rfl⟩
    · rw [upto_len, hcast] at h
      obtain ⟨c, hc, e, x2, x3, x4, x5, rfl⟩ := h
      exact ⟨c, by omega, e, _, _, _, _, _, rfl⟩
  · rw [upto_len, hcast] at h
    obtain ⟨c, hc, e, rest⟩ := h
    exact ⟨c, by omega, e, rest⟩
  obtain ⟨c, hc, rfl, x1, x2, x3, x4, x5, rfl⟩ := h
  refine sv_frz (μ := []) (c := .dt _ _) [0, 2] (i := 2) fr ?_
  let bad : D → Bool := fun d => match d with
    | .int i => decide ((fwAll k ls i.toNat i.toNat).getD 0 < 0)
    | _ => false
  have hbad : (((upto ((k : Int)).toNat).filter bad).map id).isEmpty = isLet k ls := by
    rw [hcast]
    exact isLet_filt k ls
  refine sv_ret1 (ev_tup1 (ea_cons (ev_var rfl) (ea_cons (EvP.to (ev_op1 (ev_filt (f := id) (b := bad) (iv_rng (ea_cons (ev_var rfl) ea_nil) (by omega)) (wp_name (by decide)) (by rw [upto_len]; omega) fun i d p acc hd => ?_) (ev_lst1 ea_nil (Nat.zero_le _)) (od_eqP (x := .lst (((upto ((k : Int)).toNat).filter bad).map id)) (y := .lst []) (by
    rw [List.map_id]
    exact pln_upto bad _) rfl (.inr (by decide)))) (congrArg D.bl ((eqv_nilL _).trans hbad))) ea_nil)) (Nat.le_of_ble_eq_true rfl)) ⟨_, rfl⟩
  obtain ⟨hi, rfl⟩ := hup hd
  obtain ⟨y, hy, _⟩ := fw_diag k ls hi
  refine gv_name ⟨rfl, EvB.to (eb_T (ev_lt (ev_dgetT (ev_var rfl) (ev_tup1 (ea_cons (ev_var rfl) (ea_cons (ev_var rfl) ea_nil)) (Nat.le_of_ble_eq_true rfl)) hy) ev_int)) ?_, fun _ => ev_var rfl⟩
  show decide (y < 0) = decide ((fwAll k ls ((i : Int)).toNat ((i : Int)).toNat).getD 0 < 0)
  rw [Int.toNat_natCast, hy]
  rfl
end
end RN
end

section
set_option Elab.async false
set_option linter.all false
set_option maxRecDepth 100000
set_option maxHeartbeats 4000000
set_option autoImplicit false
/-! RN_G: promises of defs that are called where no repr is under way (Around.guards known to be empty), for repr of tuples and lists. -/
namespace L2
open PySem PySem.Spec PyProof.Rows
/-- a promise kept where no repr is under way -/
structure FnOkG (P : Program) (w : World) (K : PySem.W.Frag) (mg : Str → Option Value) (base : Heap) (CX : CXT) (k : Nat) (f : Addr) (fd : FuncData) (ps : List Str) (sp : Sp) : Prop where
  len : ∀ vs H Q E, sp vs H Q E → vs.length = ps.length
  run : ∀ (A : Around), A.guards = some [] → ∀ (outer : List Env) (s : Shared) (H : Hp) (args : Args) (us : List Value) (vs : List V) (Q : VK) (E : XK), Room k A → Env0 P w K mg base A outer s H → BindsTo s fd args (ps.zip us) → Vals vs us → sp vs H Q E →
    codeAny (model P w) A (.call (.ref f) args) (CR CX outer P w H s Q E) s
section
variable {P : Program} {w : World} {K : PySem.W.Frag} {mg : Str → Option Value} {base : Heap} {CX : CXT} {k : Nat} {f : Addr} {fd : FuncData} {x qual : Str} {params : Arguments} {body : List Stmt} {scope : Scope} {dvs : List V} {kws : List (Str × V)} {N ps : List Str} {sp : Sp}
theorem FnOk.toG (F : FnOk P w K mg base CX k f fd ps sp) : FnOkG P w K mg base CX k f fd ps sp := ⟨F.len, fun A _ outer s H args us vs Q E hr e0 hb r h => F.run A outer s H args us vs Q E hr e0 hb r h⟩
theorem FunD.okG (F : FunD K x qual params body scope dvs kws f fd) (S : FnScope N ps scope) (len : ∀ vs H Q E, sp vs H Q E → vs.length = ps.length)
    (hbody : ∀ (cdv : Value) (A : Around) (outer : List Env) (s : Shared) (H : Hp) (vs : List V) (Q : VK) (E : XK), Room k (A.deeper (envOfC qual scope s.heap.objs.size f cdv)) → A.guards = some [] → sp vs H Q E →
      ∃ t, PSs (cxOf CX P w K mg base N qual scope f cdv A outer s H E) body t ∧ t { nx := fun _ H' => Q .non H', rt := Q } (start N vs) H) : FnOkG P w K mg base CX (k + 1) f fd ps sp := by
  obtain ⟨oc, od, dV, kV, doc, pm, an, cdv, ct, osl, rfl, lk, hcd, _, _⟩ := F.ex
  refine ⟨len, fun A hg outer s H args us vs Q E hr e0 hb r h => ?_⟩
  have ok := e0.mod.kin.keeps fun b o z => (e0.bs b o z).1
  refine codeAny_call_function hr.depth (ok _ _ lk) rfl S.co S.gen rfl (PySem.W.codeRec_of ok hcd) (hb _ _ _ _ (wpAny_newFunctionEnv_cells S.kind (fun q hq => ?_) fun env he s1 x1 => ?_))
  · obtain ⟨n, v⟩ := q
    exact (S.par n (List.of_mem_zip hq).1).imp id fun z => ⟨z, PySem.W.cellsFrom_some _ _ _ (.inl z)⟩
  subst he
  obtain ⟨t, ht, hq⟩ := hbody cdv A outer s H vs Q E (hr.deeper _) hg h
  refine ⟨(e0.mod.nolimit.keeps fun b o z => (e0.bs b o z).1).keeps x1.toInCall.keep, codeAny_func (wpAny_mono (ht.run [] s1 (start N vs) H _ (inv_start S hr.hd e0 (len _ _ _ _ h) r x1) hq) (fun fl s' hs => ?_) fun e s' z => z)⟩
  match fl, hs with
  | .ret u, ⟨v, σ', H', J, rv, q⟩ => exact ⟨v, H', J.os, J.bare, J.base, J.hok, rv, q⟩
  | .next, ⟨σ', H', J, q⟩ => exact ⟨.non, H', J.os, J.bare, J.base, J.hok, rfl, q⟩
  | .brk, ⟨_, _, _, q⟩ => exact q.elim
  | .cont, ⟨_, _, _, q⟩ => exact q.elim
end
section
variable {X : Cx} {CX : CXT} {k : Nat} {f : Addr} {fd : FuncData} {ps : List Str} {sp : Sp} {ds : List Value} {E : XK} {x : Str} {p pos : Pos} {e : Expr} {es : List Expr} {t : TA}
/-- a call of such a def -/
theorem pe_callG (F : FnOkG X.prog X.w X.K X.mg X.base CX k f fd ps sp) (hr : Room k X.A) (hgd : X.A.guards = some []) (hg : Gl X x) (hm : X.mg x = some (.ref f)) (hk : PySem.W.keepIn X.K (.ref f) = true) (hb : Binds X.K fd ps []) (hx : Passes CX X E)
    (ha : PA X (e :: es) t) (hdb : (x == ("__debug__" : Str)) = false := by decide) (he : starEach (e :: es) X.env = (false, eval e X.env) :: starEach es X.env := by rfl) (hpl : (backTo pos (starEach es X.env)).any (·.1) = false := by rfl) :
    PE X (.Call (.Name x p) (e :: es) [] pos) (tCall sp [] E t) := by
  refine ⟨fun pins s σ H Q I h => wpAny_Call_Name_kw (ld_glob I hg hm (PySem.W.callWith_K (h₀ := X.base) I.ok.mod.kin hk (thn (ha.run pos pins s σ H _ I h) fun us s1 ⟨vs, H1, I1, r, q⟩ => ⟨I1.kIn, ?_⟩) he hpl) hdb)⟩
  have q' : sp vs H1 Q E := by
    rw [← List.append_nil vs]
    exact q
  have hl : us.length = ps.length := by rw [← r.length]; exact F.len _ _ _ _ q'
  have hb' := hb s1 us I1.kIn (by rw [List.append_nil]; exact hl)
  rw [List.append_nil] at hb'
  refine wpAny_call (codeAny_mono (F.run X.A hgd X.stack s1 H1 ⟨us, []⟩ us vs Q E hr I1.env0 hb' r q') fun r s' hq => ?_)
  match r, hq with
  | .error e, hq => exact hx pins σ H1 s1 e s' I1 hq
  | .ok (.ret u), hq => exact I1.after hq
  | .ok .next, hq => exact False.elim hq
  | .ok .brk, hq => exact False.elim hq
  | .ok .cont, hq => exact False.elim hq
/-- repr of data -/
abbrev rRepr (K : PySem.W.Frag) : List V → Hp → VK → Prop := fun xs H Q => ∃ v d, xs = [v] ∧ Dp K H v d ∧ d.showable = true ∧ d.hasDict = false ∧ d.depth ≤ 60 ∧ d.shown.length ≤ sizeLine ∧ Q (.str d.shown) H
theorem call_reprP (hgd : X.A.guards = some []) (hu : X.A.units + 64 < cLine) : CallR X (.builtin "repr") (rRepr X.K) := by
  intro pins s σ H xs us Q I r h
  obtain ⟨v, d, rfl, hd, hs, hnd, hdp, hsz, q⟩ := h
  obtain ⟨u, rfl, rv⟩ := vals1 r
  obtain ⟨as, rd⟩ := Dp.reads I d v u hd rv
  have fin : ∀ {y : Str} {t : Tok} {tk : Nat}, d.shown = y → EP X pins σ Q (.str y t) { s with toks := tk } := fun {y t tk} e => ⟨.str y, H, I.tok _, ⟨t, rfl⟩, by rw [← e]; exact q⟩
  cases rd with
  | none => exact PySem.P.repr_of_none (fin (by unfold PyData.shown; rfl))
  | bool b => exact PySem.P.repr_of_bool (fin (by unfold PyData.shown; rfl))
  | int i t => exact PySem.P.repr_of_int (by simpa [PyData.showable] using hs) (fin (by unfold PyData.shown; rfl))
  | str y t => exact PySem.P.repr_of_str (fin (by unfold PyData.shown; rfl)) (by unfold PyData.shown at hsz; exact hsz)
  | list h1 h2 h3 h4 => exact repr_of_reads' (.list h1 h2 h3 h4) hs (PyData.noDict_hsm hnd) hgd (by omega) (fun b o e => e) (fun h' u tk hk => ⟨.str _, H, I.un (t' := tk) (Un.kept hk) (I.hok.kept hk), ⟨u, rfl⟩, q⟩) hsz
  | tuple h1 h2 h3 h4 => exact repr_of_reads' (.tuple h1 h2 h3 h4) hs (PyData.noDict_hsm hnd) hgd (by omega) (fun b o e => e) (fun h' u tk hk => ⟨.str _, H, I.un (t' := tk) (Un.kept hk) (I.hok.kept hk), ⟨u, rfl⟩, q⟩) hsz
  | dict h1 h2 h3 h4 h5 => 
    unfold PyData.hasDict at hnd
    cases hnd
theorem pe_repr {a : Expr} {ta : TE} (hgd : X.A.guards = some []) (hu : X.A.units + 64 < cLine) (hm : X.mg "repr" = none) (ha : PE X a ta) (hg : Gl X "repr" := by rfl) (h1 : starEach [a] X.env = (false, eval a X.env) :: starEach [] X.env := by rfl) :
    PE X (.Call (.Name "repr" p) [a] [] pos) (tCB (rRepr X.K) (tCons ta tNil)) :=
  pe_callB (call_reprP hgd hu) hg hm PyProof.Rows.boot_repr (pa_cons ha pa_nil h1) (by decide) (by decide) h1 (by rfl)
end
end L2
namespace L2
open PySem PySem.Spec PyProof.Rows
section
variable {P : Program} {w : World} {K : PySem.W.Frag} {mg mb : Str → Option Value} {CX : CXT} {k : Nat} {fa a : Addr} {fd : FuncData} {x : Str} {sp : Sp} {s₁ : Shared} {vs : List Value} {ns : List Int}
/-- the law's call, the heap H given: the script alone may be known to it -/
theorem law_atG {H : Hp} (KX : K.In s₁.heap) (hns : s₁.heap.Ns mainGlobals mg) (hb : s₁.heap.Ns builtinsNs mb) (hbb : ∀ x : Str, x ≠ "__name__" → mb x = bootBuiltins x) (hlim : s₁.heap.NoLimit) (hg : s₁.gens = #[])
    (ha : s₁.heap.get? a = some { cls := .type "list", data := .seq vs.toArray }) (hr : Room k callerA)
    (F : ∀ base : Heap, K.In base → base.Ns mainGlobals mg → FnOkG P w K mg base CX k fa fd [x] sp) (hbind : ∀ (s : Shared) (u : Value), BindsTo s fd ⟨[u], []⟩ [(x, u)])
    (hsp : sp [.ref a] H (fun v _ => v = .bl true) fun _ _ _ => False) (hCX : ∀ H e s', CX [] H s₁ (fun _ _ _ => False) e s' → False)
    (hok : HOk P w H s₁.heap) (hO : ∀ b u, H b = some u → b = a ∧ ∃ o xs, u = .frz o (.lst xs)) (hK : H a ≠ none → K.lookup a = none) :
    codeAny (model P w) callerA (.call (.ref fa) ⟨[.ref a], []⟩) (fun r s' => r = .ok (.ret (.bool true)) ∧ OldK s₁.heap s'.heap ∧ s'.os = s₁.os ∧ AllBare s'.gens) s₁ := by
  -- objects that the base keeps
  have inB : ∀ {b : Addr} {o : Obj}, s₁.heap.get? b = some o → (b = a → H a = none) → (hidT s₁.heap H).get? b = some o := fun {b o} e n => hidT_get e (by
    cases q : H b with
    | none => rfl
    | some u =>
      have e' := (hO b u q).1
      subst e'
      rw [n rfl] at q
      cases q)
  have dicts : ∀ {b : Addr} {m : Str → Option Value}, s₁.heap.Ns b m → (hidT s₁.heap H).Ns b m := fun {b m} ⟨o, es, ep, e, d, r⟩ => ⟨o, es, ep, inB e (fun z => by
    subst z
    rw [ha] at e
    cases e
    cases d), d, r⟩
  have kb : K.In (hidT s₁.heap H) := fun b o e => inB (KX b o e) fun z => by
    subst z
    cases q : H b with
    | none => rfl
    | some u =>
      rw [hK (by rw [q]; exact fun z => nomatch z)] at e
      cases e
  have e0 : Env0 P w K mg (hidT s₁.heap H) callerA [] s₁ H := ⟨rfl, ⟨kb, dicts hns, ⟨mb, dicts hb, hbb⟩, let ⟨mc, h1, h2⟩ := hlim; ⟨mc, dicts h1, h2⟩⟩, fun b o e => of_hidT e, Nat.le_of_eq (hidT_size _ _), trivial, fun b hb => absurd hb List.not_mem_nil, hok, .of_eq hg⟩
  refine codeAny_mono ((F _ kb (dicts hns)).run callerA rfl [] s₁ H ⟨[.ref a], []⟩ [.ref a] [.ref a] _ _ hr e0 (hbind s₁ (.ref a)) (.cons rfl .nil) hsp) fun r s' h => ?_
  match r, h with
  | .error e, h => exact (hCX H e s' h).elim
  | .ok .next, h => exact False.elim h
  | .ok .brk, h => exact False.elim h
  | .ok .cont, h => exact False.elim h
  | .ok (.ret u), ⟨v, H', os, bare, un, hok', r', q⟩ =>
    cases (show v = .bl true from q)
    cases (show u = Value.bool true from r')
    refine ⟨rfl, OldK.of_keep fun b o e => ?_, os, bare⟩
    cases q : H b with
    | none => exact un.keep b o e q List.not_mem_nil List.not_mem_nil
    | some u =>
      obtain ⟨_, ob, xs, rfl⟩ := hO b u q
      obtain ⟨e1, _⟩ := hok b _ q
      obtain ⟨e2, _⟩ := hok' b _ (un.frzs b ob _ q)
      rw [e] at e1
      cases e1
      exact e2
theorem law_callG (KX : K.In s₁.heap) (hns : s₁.heap.Ns mainGlobals mg) (hb : s₁.heap.Ns builtinsNs mb) (hbb : ∀ x : Str, x ≠ "__name__" → mb x = bootBuiltins x) (hlim : s₁.heap.NoLimit) (hg : s₁.gens = #[])
    (ha : s₁.heap.get? a = some { cls := .type "list", data := .seq vs.toArray }) (hi : IntsAre vs ns) (hl : ns.length ≤ sizeLine) (hr : Room k callerA)
    (F : ∀ base : Heap, K.In base → base.Ns mainGlobals mg → FnOkG P w K mg base CX k fa fd [x] sp) (hbind : ∀ (s : Shared) (u : Value), BindsTo s fd ⟨[u], []⟩ [(x, u)])
    (hsp : ∀ H : Hp, Only H → SqL K H a (ns.map V.int) → sp [.ref a] H (fun v _ => v = .bl true) fun _ _ _ => False) (hCX : ∀ H e s', CX [] H s₁ (fun _ _ _ => False) e s' → False) :
    codeAny (model P w) callerA (.call (.ref fa) ⟨[.ref a], []⟩) (fun r s' => r = .ok (.ret (.bool true)) ∧ OldK s₁.heap s'.heap ∧ s'.os = s₁.os ∧ AllBare s'.gens) s₁ := by
  have rv := vals_ints hi
  cases hk : K.lookup a with
  | some o =>
    have e := KX a o hk
    rw [ha] at e
    cases e
    exact law_atG (H := fun _ => none) KX hns hb hbb hlim hg ha hr F hbind (hsp _ (fun _ => .inl rfl) (.inr ⟨_, vs.toArray, _, hk, rfl, rfl, rfl, by rw [List.size_toArray, hi.length]; exact hl, by simpa using rv⟩)) hCX (fun b u z => nomatch z) (fun b u z => nomatch z) fun z => absurd rfl z
  | none =>
    let H : Hp := fun b => if b = a then some (.frz { cls := .type "list", data := .seq vs.toArray } (.lst (ns.map V.int))) else none
    have hH : ∀ b u, H b = some u → b = a ∧ u = .frz { cls := .type "list", data := .seq vs.toArray } (.lst (ns.map V.int)) := fun b u z => by
      show b = a ∧ _
      by_cases e : b = a
      · have z' : some (HO.frz { cls := .type "list", data := .seq vs.toArray } (.lst (ns.map V.int))) = some u := (if_pos e).symm.trans z
        exact ⟨e, (Option.some.inj z').symm⟩
      · have z' : (none : Option HO) = some u := (if_neg e).symm.trans z
        cases z'
    exact law_atG (H := H) KX hns hb hbb hlim hg ha hr F hbind (hsp H (fun b => by
      by_cases e : b = a
      · exact .inr ⟨_, _, if_pos e⟩
      · exact .inl (if_neg e)) (.inl (.inr ⟨_, if_pos rfl⟩))) hCX (fun b u z => by
      obtain ⟨rfl, rfl⟩ := hH b u z
      exact ⟨ha, by rw [List.length_map]; exact hl, vs, _, rv, ha⟩) (fun b u z => ⟨(hH b u z).1, _, _, (hH b u z).2⟩) fun _ => hk
end
/-- the law's end -/
theorem walk_ofG {l : PySem.W.OpenLaw} {n k : Nat} {q : Program} {loose : List Str} {XP : (Str → Option Value) → Heap → Prop} {YP : World → Heap → Prop} {d : DefRec} {CX : CXT} {x : Str}
    (hn : l.most = some n) (hn2 : n ≤ sizeLine) (hdf : d.params.defaults = []) (hr : Room k callerA)
    (F : ∀ (w : World) (mg : Str → Option Value) (fa : Addr) (h : Heap), YP w h → h.Ns mainGlobals mg → mg d.name = some (.ref fa) →
      ∃ (K : PySem.W.Frag) (fd : FuncData) (sp : Sp), K.In h ∧ (∀ (s : Shared) (u : Value), BindsTo s fd ⟨[u], []⟩ [(x, u)]) ∧
        (∀ (H : Hp) (a : Addr) (ns : List Int), ns.length ≤ n → Only H → SqL K H a (ns.map V.int) → sp [.ref a] H (fun v _ => v = .bl true) fun _ _ _ => False) ∧
        ∀ base : Heap, K.In base → base.Ns mainGlobals mg → FnOkG l.prog w K mg base CX k fa fd [x] sp)
    (hCX : ∀ (H : Hp) (s : Shared) (e : Value) (s' : Shared), CX [] H s (fun _ _ _ => False) e s' → False) :
    PySem.W.WalkO q loose XP YP l.row.toRowW d [] (fun f vs => PySem.call f vs) := Att.attach_call hn hdf fun w s₀ s₁ mg mb fa o pm cd doc a vs ns G Y ho hd hcd hmg hobj hints hlen hg => by
  obtain ⟨K, fd, sp, KX, hb, hsp, hF⟩ := F w mg fa _ Y G.T.g hmg
  exact law_callG KX G.T.g G.T.b G.T.builtins G.T.nolimit hg hobj hints (Nat.le_trans hlen hn2) hr hF hb (fun H hO hS => hsp H a ns hlen hO hS) fun H e s' => hCX H s₁ e s'
end L2
namespace RN
open PySem PySem.Spec L2
/-- a def of the text as callers want it, where no repr is under way -/
def CalG (P : Program) (w : World) (K : PySem.W.Frag) (mg : Str → Option Value) (base : Heap) (CX : CXT) (k : Nat) (x : Str) (ps : List Str) (sp : Sp) : Prop :=
  ∃ (f : Addr) (fd : FuncData), mg x = some (.ref f) ∧ PySem.W.keepIn K (.ref f) = true ∧ Binds K fd ps [] ∧ FnOkG P w K mg base CX k f fd ps sp
section
variable {X : Cx} {CX : CXT} {k : Nat} {x : Str} {ps : List Str} {sp : Sp} {p pos : Pos} {e : Expr} {es : List Expr} {t : TA} {E : XK}
theorem pe_ownG (C : CalG X.prog X.w X.K X.mg X.base CX k x ps sp) (hr : Room k X.A) (hgd : X.A.guards = some []) (hg : Gl X x) (hx : Passes CX X E) (ha : PA X (e :: es) t) (hdb : (x == ("__debug__" : Str)) = false := by decide)
    (he : starEach (e :: es) X.env = (false, eval e X.env) :: starEach es X.env := by rfl) (hpl : (backTo pos (starEach es X.env)).any (·.1) = false := by rfl) : PE X (.Call (.Name x p) (e :: es) [] pos) (tCall sp [] E t) := by
  obtain ⟨f, fd, h1, h2, h3, h4⟩ := C
  exact pe_callG h4 hr hgd hg h1 h2 h3 hx ha hdb he hpl
end
section
variable {P : Program} {w : World} {K : PySem.W.Frag} {mg : Str → Option Value} {base : Heap} {CN : Addr} {x qual : Str} {params : Arguments} {body : List Stmt} {scope : Scope} {f : Addr} {fd : FuncData} {N ps : List Str} {k : Nat}
theorem fn_NG {α : Type} {CX : CXT} (enc : α → List D) (ok : α → Prop) (post : α → D → Prop) (F : FunD K x qual params body scope [] [] f fd) (S : FnScope N ps scope) (hlen : ∀ z, (enc z).length = ps.length)
    (hbody : ∀ (cdv : Value) (A : Around) (outer : List Env) (s : Shared) (H : Hp) (E : XK), Room k (A.deeper (PyProof.Rows.envOfC qual scope s.heap.objs.size f cdv)) → A.guards = some [] → ∀ z, ok z →
      ∃ t, PSs (cxOf CX P w K mg base N qual scope f cdv A outer s H E).nox body t ∧ ∀ U, SvP ⟨CN, U, U, [], 0⟩ t (args0 (enc z) N) [] (fun _ _ => post z .non) (fun d _ => post z d)) :
    FnOkG P w K mg base CX (k + 1) f fd ps (spN CN enc ok post) := by
  refine F.okG S (fun vs H Q E h => ?_) fun cdv A outer s H vs Q E hr hgd h => ?_
  · obtain ⟨U, z, _, r, p, _⟩ := h
    rw [r.length, hlen z]
  · obtain ⟨U, z, hU, r, p, q⟩ := h
    obtain ⟨t, h1, h2⟩ := hbody cdv A outer s H E hr hgd z p
    have hl : (enc z).length ≤ N.length := by
      have := congrArg List.length S.pre
      rw [List.length_take] at this
      have := hlen z
      omega
    refine ⟨t, h1.nox, h2 U _ H _ (start_stt hU r hl) (fun σ' H' ρ' μ' e s' n => q _ H' .non (fun a o z => e a o (by simp) z) rfl n) fun v H' d μ' e s' r' n => q v H' d (fun a o z => e a o (by simp) z) r' n⟩
theorem cal_mkG {CX : CXT} {sp : Sp} (g : mg x = some (.ref f)) (F : FunD K x x params body scope [] [] f fd)
    (hb : ∀ (kV doc pm : Value) (an : Option Addr) (cdv ct : Value) (us : List Value), us.length = ps.length → bindArgs (PySem.W.fnOf x x params body scope .none kV doc pm an cdv ct) ⟨us, []⟩ = pure (ps.zip us))
    (h : FnOkG P w K mg base CX k f fd ps sp) : CalG P w K mg base CX k x ps sp := ⟨f, fd, g, F.kp, F.bindsN hb, h⟩
end
end RN
end

section
set_option Elab.async false
set_option linter.all false
set_option maxRecDepth 100000
set_option maxHeartbeats 4000000
set_option autoImplicit false
/-! RN_Repr: a datum is shown as a whole number is only where it is that number. -/
namespace RN
open PySem PySem.Spec L2 PyProof.Rows PySem.NumText
def hd (x : Str) : Option Nat := x.cps.toList.head?
theorem hd_app {a b : Str} {c : Nat} (h : hd a = some c) : hd (a ++ b) = some c := by
  unfold hd at h ⊢
  rw [Str.cps_append, Array.toList_append, List.head?_append, h]
  rfl
theorem hd_from {c : Nat} : ∀ (ts : List Str) (k : Nat) (acc : Str), hd acc = some c → hd (textFrom k acc ts) = some c
  | [], _, _, h => h
  | t :: ts, k, acc, h => hd_from ts (k + 1) _ (hd_app (hd_app h))
theorem hd_list (ts : List Str) : hd (listText ts) = some 91 := hd_app (hd_from ts 0 "[" (by decide))
theorem hd_tuple (ts : List Str) : hd (tupleText ts) = some 40 := hd_app (hd_app (show hd "(" = some 40 by decide))
theorem hd_fold {q c : Nat} : ∀ (l : List Nat) (acc : Array Nat), acc.toList.head? = some c → (l.foldl (fun out c => out ++ (Builtin.Str.reprChar q c).toArray) acc).toList.head? = some c
  | [], _, h => h
  | d :: l, acc, h => hd_fold l _ (by rw [Array.toList_append, List.head?_append, h]; rfl)
theorem hd_str (x : Str) : hd (reprText x) = some 39 ∨ hd (reprText x) = some 34 := by
  have h : hd (reprText x) = some (reprQuote x) := by
    unfold hd reprText
    show (Array.push _ _).toList.head? = _
    rw [Array.toList_push, List.head?_append, ← Array.foldl_toList, hd_fold (c := reprQuote x) x.cps.toList #[reprQuote x] rfl]
    rfl
  rw [h]
  unfold reprQuote
  split
  · exact .inr rfl
  · exact .inl rfl
theorem txt_neg (m : Nat) : (Str.ofString (toString (Int.negSucc m))).cps.toList = 45 :: (Nat.toDigits 10 (m + 1)).map Char.toNat := by
  rw [PyProof.Rows.signs_ofString]
  show ("-" ++ Nat.repr (m + 1)).toList.map Char.toNat = _
  rw [String.toList_append, List.map_append, Nat.toList_repr]
  rfl
theorem digs_range {m c : Nat} (h : c ∈ (Nat.toDigits 10 m).map Char.toNat) : 48 ≤ c ∧ c ≤ 57 := by
  obtain ⟨ch, hch, e⟩ := List.mem_map.mp h
  have r := PyProof.Rows.digit_range (Nat.isDigit_of_mem_toDigits (by decide) (by decide) hch)
  rw [← e]
  exact r
theorem digs_ne (m : Nat) : (Nat.toDigits 10 m).map Char.toNat ≠ [] := fun e => by
  have h := toDigits_len_ge 10 m
  rw [List.map_eq_nil_iff.mp e] at h
  exact absurd h (by decide)
theorem hd_int (i : Int) : ∃ c, hd (Str.ofString (toString i)) = some c ∧ (c = 45 ∨ 48 ≤ c ∧ c ≤ 57) := by
  unfold hd
  cases i with
  | ofNat m =>
    rw [show (Int.ofNat m) = ((m : Nat) : Int) from rfl, PySem.W.KIN.signs_num]
    have hn := digs_ne m
    have hr := @digs_range m
    generalize (Nat.toDigits 10 m).map Char.toNat = l at hn hr
    cases l with
    | nil => exact absurd rfl hn
    | cons c l => exact ⟨c, rfl, .inr (hr List.mem_cons_self)⟩
  | negSucc m => rw [txt_neg]; exact ⟨45, rfl, .inl rfl⟩
theorem txt_inj {i j : Int} (h : Str.ofString (toString i) = Str.ofString (toString j)) : i = j := by
  have h' := congrArg (fun x : Str => x.cps.toList) h
  replace h' : (Str.ofString (toString i)).cps.toList = (Str.ofString (toString j)).cps.toList := h'
  have mix : ∀ {m k : Nat}, (Nat.toDigits 10 m).map Char.toNat ≠ 45 :: (Nat.toDigits 10 (k + 1)).map Char.toNat := fun {m k} e => by
    have := @digs_range m 45 (by rw [e]; exact List.mem_cons_self)
    omega
  cases i with
  | ofNat m =>
    rw [show (Int.ofNat m) = ((m : Nat) : Int) from rfl, PySem.W.KIN.signs_num] at h'
    cases j with
    | ofNat k =>
      rw [show (Int.ofNat k) = ((k : Nat) : Int) from rfl, PySem.W.KIN.signs_num] at h'
      have := congrArg PySem.NumText.digitsVal h'
      rw [PySem.W.KIN.val_back, PySem.W.KIN.val_back] at this
      rw [this]
    | negSucc k => rw [txt_neg] at h'; exact absurd h' mix
  | negSucc m =>
    rw [txt_neg] at h'
    cases j with
    | ofNat k =>
      rw [show (Int.ofNat k) = ((k : Nat) : Int) from rfl, PySem.W.KIN.signs_num] at h'
      exact absurd h'.symm mix
    | negSucc k =>
      rw [txt_neg] at h'
      have := congrArg PySem.NumText.digitsVal (List.cons.inj h').2
      rw [PySem.W.KIN.val_back, PySem.W.KIN.val_back] at this
      rw [show m = k by omega]
def D.isI (i : Int) : D → Bool
  | .int j => decide (j = i)
  | _ => false
/-- shown as a number is: only that number -/
theorem shown_isI {d : D} (hp : d.pln = true) (i : Int) : decide (d.py.shown = Str.ofString (toString i)) = d.isI i := by
  obtain ⟨c, hc, hr⟩ := hd_int i
  have no : ∀ {x : Str} {e : Nat}, hd x = some e → e ≠ 45 → ¬ (48 ≤ e ∧ e ≤ 57) → decide (x = Str.ofString (toString i)) = false := fun {x e} h1 h2 h3 => decide_eq_false fun z => by
    rw [z, hc] at h1
    cases h1
    rcases hr with q | q
    · exact h2 q
    · exact h3 q
  cases d with
  | non => exact no (e := 78) (by unfold D.py PyData.shown; decide) (by decide) (by decide)
  | bl b => cases b with
    | true => exact no (e := 84) (by unfold D.py PyData.shown; decide) (by decide) (by decide)
    | false => exact no (e := 70) (by unfold D.py PyData.shown; decide) (by decide) (by decide)
  | int j =>
    unfold D.py PyData.shown D.isI
    exact decide_eq_decide.mpr ⟨fun e => txt_inj e, fun e => by rw [e]⟩
  | str x =>
    unfold D.py PyData.shown
    rcases hd_str x with h | h
    · exact no h (by decide) (by decide)
    · exact no h (by decide) (by decide)
  | tup ds => unfold D.py PyData.shown; exact no (hd_tuple _) (by decide) (by decide)
  | lst ds => unfold D.py PyData.shown; exact no (hd_list _) (by decide) (by decide)
  | net _ _ => cases hp
  | ah _ _ => cases hp
  | dt _ _ => cases hp
  | ty _ => cases hp
  | cls _ => cases hp
end RN
end

section
set_option Elab.async false
set_option linter.all false
set_option maxRecDepth 100000
set_option maxHeartbeats 4000000
set_option autoImplicit false
set_option exponentiation.threshold 2000
/-! RN_Sm: small values: numbers up to b, texts up to 70 letters, tuples and lists of at most n, at most k deep. -/
namespace RN
open PySem PySem.Spec L2
def smS (s : Str) : Bool := decide (s.length ≤ 70) && s.cps.toList.all fun c => decide (c < 16 ^ 8)
def D.sm (b n : Nat) : Nat → D → Bool
  | k, .non => true
  | k, .bl _ => true
  | k, .int i => decide (i.natAbs ≤ b)
  | k, .str s => smS s
  | 0, _ => false
  | k + 1, .tup ds => decide (ds.length ≤ n) && ds.all (D.sm b n k)
  | k + 1, .lst ds => decide (ds.length ≤ n) && ds.all (D.sm b n k)
  | _, _ => false
theorem sm_tup {b n k : Nat} {ds : List D} (h : D.sm b n (k + 1) (.tup ds) = true) : ds.length ≤ n ∧ ∀ d ∈ ds, D.sm b n k d = true := by
  unfold D.sm at h
  rw [Bool.and_eq_true, decide_eq_true_eq, List.all_eq_true] at h
  exact h
theorem sm_lst {b n k : Nat} {ds : List D} (h : D.sm b n (k + 1) (.lst ds) = true) : ds.length ≤ n ∧ ∀ d ∈ ds, D.sm b n k d = true := by
  unfold D.sm at h
  rw [Bool.and_eq_true, decide_eq_true_eq, List.all_eq_true] at h
  exact h
theorem sm_tupI {b n k : Nat} {ds : List D} (h1 : ds.length ≤ n) (h2 : ∀ d ∈ ds, D.sm b n k d = true) : D.sm b n (k + 1) (.tup ds) = true := by
  unfold D.sm
  rw [Bool.and_eq_true, decide_eq_true_eq, List.all_eq_true]
  exact ⟨h1, h2⟩
theorem sm_lstI {b n k : Nat} {ds : List D} (h1 : ds.length ≤ n) (h2 : ∀ d ∈ ds, D.sm b n k d = true) : D.sm b n (k + 1) (.lst ds) = true := by
  unfold D.sm
  rw [Bool.and_eq_true, decide_eq_true_eq, List.all_eq_true]
  exact ⟨h1, h2⟩
theorem sm_int {b n k : Nat} {i : Int} : D.sm b n k (.int i) = decide (i.natAbs ≤ b) := by cases k <;> rfl
theorem sm_str {b n k : Nat} {s : Str} : D.sm b n k (.str s) = smS s := by cases k <;> rfl
/-- a larger class -/
theorem sm_mono {b b' n n' : Nat} (hb : b ≤ b') (hn : n ≤ n') : ∀ {k k' : Nat} {d : D}, k ≤ k' → D.sm b n k d = true → D.sm b' n' k' d = true
  | k, k', .non, _, _ => by cases k' <;> rfl
  | k, k', .bl _, _, _ => by cases k' <;> rfl
  | k, k', .int i, _, h => by
    rw [sm_int, decide_eq_true_eq] at h ⊢
    omega
  | k, k', .str s, _, h => by
    rw [sm_str] at h ⊢
    exact h
  | 0, _, .tup ds, _, h => by cases h
  | k + 1, 0, .tup ds, hk, h => by omega
  | k + 1, k' + 1, .tup ds, hk, h => by
    obtain ⟨h1, h2⟩ := sm_tup h
    exact sm_tupI (by omega) fun d hd => sm_mono hb hn (by omega) (h2 d hd)
  | 0, _, .lst ds, _, h => by cases h
  | k + 1, 0, .lst ds, hk, h => by omega
  | k + 1, k' + 1, .lst ds, hk, h => by
    obtain ⟨h1, h2⟩ := sm_lst h
    exact sm_lstI (by omega) fun d hd => sm_mono hb hn (by omega) (h2 d hd)
  | k, _, .net _ _, _, h => by cases k <;> cases h
  | k, _, .ah _ _, _, h => by cases k <;> cases h
  | k, _, .dt _ _, _, h => by cases k <;> cases h
  | k, _, .ty _, _, h => by cases k <;> cases h
  | k, _, .cls _, _, h => by cases k <;> cases h
theorem sm_vl {b n : Nat} (hn : n ≤ 500) : ∀ {k : Nat} {d : D}, D.sm b n k d = true → d.vl = true
  | k, .non, _ => rfl
  | k, .bl _, _ => rfl
  | k, .int i, _ => rfl
  | k, .str s, _ => rfl
  | 0, .tup ds, h => by cases h
  | k + 1, .tup ds, h => by
    obtain ⟨h1, h2⟩ := sm_tup h
    show (decide (ds.length ≤ 500) && vlL ds) = true
    rw [decide_eq_true (show ds.length ≤ 500 by omega), all_vlL fun d hd => sm_vl hn (h2 d hd)]
    rfl
  | 0, .lst ds, h => by cases h
  | k + 1, .lst ds, h => by
    obtain ⟨h1, h2⟩ := sm_lst h
    show (decide (ds.length ≤ 500) && vlL ds) = true
    rw [decide_eq_true (show ds.length ≤ 500 by omega), all_vlL fun d hd => sm_vl hn (h2 d hd)]
    rfl
  | k, .net _ _, h => by cases k <;> cases h
  | k, .ah _ _, h => by cases k <;> cases h
  | k, .dt _ _, h => by cases k <;> cases h
  | k, .ty _, h => by cases k <;> cases h
  | k, .cls _, h => by cases k <;> cases h
def Bd (n : Nat) : Nat → Nat
  | 0 => 702
  | k + 1 => n * (Bd n k + 2) + 702
theorem Bd_ge (n k : Nat) : 702 ≤ Bd n k := by
  cases k with
  | zero => exact Nat.le_refl _
  | succ k => exact Nat.le_add_left _ _
theorem from_len : ∀ (ts : List Str) (k : Nat) (acc : Str), (textFrom k acc ts).length ≤ acc.length + piled ts
  | [], k, acc => Nat.le_add_right _ _
  | t :: ts, k, acc => by
    have ih := from_len ts (k + 1) (acc ++ (if k > 0 then ", " else "" : String) ++ t)
    have e : (((if k > 0 then ", " else "" : String) : Str)).length ≤ 2 := by split <;> decide
    rw [strLen_append, strLen_append] at ih
    rw [piled_cons]
    show (textFrom (k + 1) _ ts).length ≤ _
    omega
theorem list_len (ts : List Str) : (listText ts).length ≤ piled ts + 2 := by
  unfold listText
  rw [strLen_append]
  have := from_len ts 0 "["
  have e1 : ((("[" : String) : Str)).length = 1 := rfl
  have e2 : ((("]" : String) : Str)).length = 1 := rfl
  omega
theorem tuple_len (ts : List Str) : (tupleText ts).length ≤ piled ts + 3 := by
  unfold tupleText
  rw [strLen_append, strLen_append]
  have e1 : ((("(" : String) : Str)).length = 1 := rfl
  have e3 : (((if ts.length == 1 then ",)" else ")" : String) : Str)).length ≤ 2 := by split <;> decide
  cases ts with
  | nil =>
    have e2 : (Str.join ", " []).length = 0 := rfl
    omega
  | cons t ts =>
    have := join_length_add (t :: ts) (fun z => nomatch z)
    omega
theorem piled_le {B : Nat} : ∀ {ds : List D}, (∀ d ∈ ds, d.py.shown.length ≤ B) → piled (PyData.shownAll (pyL ds)) ≤ ds.length * (B + 2)
  | [], _ => by unfold pyL PyData.shownAll; exact Nat.zero_le _
  | d :: ds, h => by
    have ih := piled_le fun e he => h e (List.mem_cons_of_mem _ he)
    have h0 := h d List.mem_cons_self
    unfold pyL PyData.shownAll
    rw [piled_cons, List.length_cons, Nat.add_mul]
    omega
theorem sm_shown {b n : Nat} (hb : b < 10 ^ 65) : ∀ {k : Nat} {d : D}, D.sm b n k d = true → d.py.shown.length ≤ Bd n k
  | k, .non, _ => Nat.le_trans (by unfold D.py PyData.shown; decide) (Bd_ge n k)
  | k, .bl a, _ => Nat.le_trans (by cases a <;> (unfold D.py PyData.shown; decide)) (Bd_ge n k)
  | k, .int i, h => by
    rw [sm_int, decide_eq_true_eq] at h
    refine Nat.le_trans ?_ (Bd_ge n k)
    unfold D.py PyData.shown
    have e := PySem.int_text_length_le10 (a := i) (k := 65) (by decide) (by omega)
    rw [PySem.ofString_length]
    omega
  | k, .str s, h => by
    rw [sm_str] at h
    unfold smS at h
    rw [Bool.and_eq_true, decide_eq_true_eq, List.all_eq_true] at h
    refine Nat.le_trans ?_ (Bd_ge n k)
    unfold D.py PyData.shown
    have := PySem.StrLaws.reprText_len s fun c hc => of_decide_eq_true (h.2 c hc)
    omega
  | 0, .tup ds, h => by cases h
  | k + 1, .tup ds, h => by
    obtain ⟨h1, h2⟩ := sm_tup h
    have h3 := piled_le (ds := ds) (B := Bd n k) fun d hd => sm_shown hb (h2 d hd)
    have h4 := Nat.mul_le_mul_right (Bd n k + 2) h1
    unfold D.py PyData.shown Bd
    have := tuple_len (PyData.shownAll (pyL ds))
    omega
  | 0, .lst ds, h => by cases h
  | k + 1, .lst ds, h => by
    obtain ⟨h1, h2⟩ := sm_lst h
    have h3 := piled_le (ds := ds) (B := Bd n k) fun d hd => sm_shown hb (h2 d hd)
    have h4 := Nat.mul_le_mul_right (Bd n k + 2) h1
    unfold D.py PyData.shown Bd
    have := list_len (PyData.shownAll (pyL ds))
    omega
  | k, .net _ _, h => by cases k <;> cases h
  | k, .ah _ _, h => by cases k <;> cases h
  | k, .dt _ _, h => by cases k <;> cases h
  | k, .ty _, h => by cases k <;> cases h
  | k, .cls _, h => by cases k <;> cases h
theorem showL {p : PyData → Bool} {q : List PyData → Bool} (h0 : q [] = true) (hc : ∀ x xs, q (x :: xs) = (p x && q xs)) : ∀ {ds : List D}, (∀ d ∈ ds, p d.py = true) → q (pyL ds) = true
  | [], _ => by unfold pyL; exact h0
  | d :: ds, h => by
    unfold pyL
    rw [hc, h d List.mem_cons_self, showL h0 hc fun e he => h e (List.mem_cons_of_mem _ he)]
    rfl
theorem sm_show {b n : Nat} (hb : b < 10 ^ 65) : ∀ {k : Nat} {d : D}, D.sm b n k d = true → d.py.showable = true
  | k, .non, _ => by unfold D.py PyData.showable; rfl
  | k, .bl a, _ => by unfold D.py PyData.showable; rfl
  | k, .int i, h => by
    rw [sm_int, decide_eq_true_eq] at h
    unfold D.py PyData.showable
    refine decide_eq_true ?_
    by_cases z : i.natAbs = 0
    · rw [z]
      decide
    · rw [Nat.log2_lt z]
      have : (10 : Nat) ^ 65 < 2 ^ 1920 := by decide +kernel
      omega
  | k, .str s, h => by unfold D.py PyData.showable; rfl
  | 0, .tup ds, h => by cases h
  | k + 1, .tup ds, h => by
    obtain ⟨h1, h2⟩ := sm_tup h
    unfold D.py PyData.showable
    exact showL (p := PyData.showable) (q := PyData.showableAll) (by unfold PyData.showableAll; rfl) (fun x xs => by rw [PyData.showableAll]) fun d hd => sm_show hb (h2 d hd)
  | 0, .lst ds, h => by cases h
  | k + 1, .lst ds, h => by
    obtain ⟨h1, h2⟩ := sm_lst h
    unfold D.py PyData.showable
    exact showL (p := PyData.showable) (q := PyData.showableAll) (by unfold PyData.showableAll; rfl) (fun x xs => by rw [PyData.showableAll]) fun d hd => sm_show hb (h2 d hd)
  | k, .net _ _, h => by cases k <;> cases h
  | k, .ah _ _, h => by cases k <;> cases h
  | k, .dt _ _, h => by cases k <;> cases h
  | k, .ty _, h => by cases k <;> cases h
  | k, .cls _, h => by cases k <;> cases h
theorem sm_noD {b n : Nat} : ∀ {k : Nat} {d : D}, D.sm b n k d = true → (!d.py.hasDict) = true
  | k, .non, _ => by unfold D.py PyData.hasDict; rfl
  | k, .bl a, _ => by unfold D.py PyData.hasDict; rfl
  | k, .int i, h => by unfold D.py PyData.hasDict; rfl
  | k, .str s, h => by unfold D.py PyData.hasDict; rfl
  | 0, .tup ds, h => by cases h
  | k + 1, .tup ds, h => by
    obtain ⟨h1, h2⟩ := sm_tup h
    unfold D.py PyData.hasDict
    exact showL (p := fun d => !d.hasDict) (q := fun l => !PyData.hasDictAll l) (by rw [PyData.hasDictAll]; rfl) (fun x xs => by rw [PyData.hasDictAll, Bool.not_or]) fun d hd => sm_noD (h2 d hd)
  | 0, .lst ds, h => by cases h
  | k + 1, .lst ds, h => by
    obtain ⟨h1, h2⟩ := sm_lst h
    unfold D.py PyData.hasDict
    exact showL (p := fun d => !d.hasDict) (q := fun l => !PyData.hasDictAll l) (by rw [PyData.hasDictAll]; rfl) (fun x xs => by rw [PyData.hasDictAll, Bool.not_or]) fun d hd => sm_noD (h2 d hd)
  | k, .net _ _, h => by cases k <;> cases h
  | k, .ah _ _, h => by cases k <;> cases h
  | k, .dt _ _, h => by cases k <;> cases h
  | k, .ty _, h => by cases k <;> cases h
  | k, .cls _, h => by cases k <;> cases h
theorem depL {m : Nat} : ∀ {ds : List D}, (∀ d ∈ ds, d.py.depth ≤ m) → PyData.depthAll (pyL ds) ≤ m
  | [], _ => by unfold pyL PyData.depthAll; exact Nat.zero_le _
  | d :: ds, h => by
    unfold pyL PyData.depthAll
    exact Nat.max_le.mpr ⟨h d List.mem_cons_self, depL fun e he => h e (List.mem_cons_of_mem _ he)⟩
theorem sm_depth {b n : Nat} : ∀ {k : Nat} {d : D}, D.sm b n k d = true → d.py.depth ≤ k
  | k, .non, _ => by unfold D.py PyData.depth; exact Nat.zero_le _
  | k, .bl a, _ => by unfold D.py PyData.depth; exact Nat.zero_le _
  | k, .int i, h => by unfold D.py PyData.depth; exact Nat.zero_le _
  | k, .str s, h => by unfold D.py PyData.depth; exact Nat.zero_le _
  | 0, .tup ds, h => by cases h
  | k + 1, .tup ds, h => by
    obtain ⟨h1, h2⟩ := sm_tup h
    unfold D.py PyData.depth
    exact Nat.succ_le_succ (depL fun d hd => sm_depth (h2 d hd))
  | 0, .lst ds, h => by cases h
  | k + 1, .lst ds, h => by
    obtain ⟨h1, h2⟩ := sm_lst h
    unfold D.py PyData.depth
    exact Nat.succ_le_succ (depL fun d hd => sm_depth (h2 d hd))
  | k, .net _ _, h => by cases k <;> cases h
  | k, .ah _ _, h => by cases k <;> cases h
  | k, .dt _ _, h => by cases k <;> cases h
  | k, .ty _, h => by cases k <;> cases h
  | k, .cls _, h => by cases k <;> cases h
/-- the values the law judges -/
def D.ok (d : D) : Prop := D.sm (10 ^ 64) 12 4 d = true
theorem ok_shown {d : D} (h : d.ok) : d.py.shown.length ≤ sizeLine := by
  have := sm_shown (n := 12) (by decide +kernel) h
  rw [sizeLine_eq]
  exact Nat.le_trans this (by decide +kernel)
theorem ok_vl {d : D} (h : d.ok) : d.vl = true := sm_vl (by decide) h
theorem ok_item {ds : List D} (h : (D.tup ds).ok) {d : D} (hd : d ∈ ds) : d.ok := sm_mono (Nat.le_refl _) (Nat.le_refl _) (by decide : 3 ≤ 4) ((sm_tup h).2 d hd)
theorem ev_repr {W : Wd} {ρ : List Sl} {μ : List Cell} {ta : TE} {K : PySem.W.Frag} {d : D} (h : d.ok) (ha : EvP W ta ρ μ (Is d)) : EvP W (tCB (rRepr K) (tCons ta tNil)) ρ μ (Is (.str d.py.shown)) := ev_cb1 ha fun H μ s vs r Q q => by
  obtain ⟨v, r', rfl, h1, h2⟩ := r
  rw [show r' = [] from h2]
  have hn := sm_noD h
  rw [Bool.not_eq_true'] at hn
  exact ⟨v, d.py, rfl, dp_of (vl_pln (ok_vl h)) h1, sm_show (by decide +kernel) h, hn, Nat.le_trans (sm_depth h) (by decide), ok_shown h, q _ H (.str d.py.shown) (Same.refl H) rfl rfl⟩
end RN
end

section
set_option Elab.async false
set_option linter.all false
set_option maxRecDepth 100000
set_option maxHeartbeats 4000000
set_option autoImplicit false
/-! RN_RevT: t[::-1] of a tuple. -/
namespace L2
open PySem PySem.Spec PyProof.Rows PySem.Calls
section
variable {prog : Program} {w : World} {A : Around} {E : Value → Shared → Prop} {s : Shared}
theorem revPick (xs : Array Value) : ((List.range xs.size).filterMap fun (k : Nat) => xs[(((xs.size : Int) - 1) + (k : Int) * (-1)).toNat]?) = xs.toList.reverse := by
  have h : (List.range xs.size).filterMap (fun (k : Nat) => xs[(((xs.size : Int) - 1) + (k : Int) * (-1)).toNat]?) = ((List.range xs.size).map fun k => xs.size - 1 - k).filterMap (xs[·]?) := by
    rw [List.filterMap_map]
    refine congrArg (fun g => List.filterMap g (List.range xs.size)) (funext fun k => ?_)
    show xs[(((xs.size : Int) - 1) + (k : Int) * (-1)).toNat]? = xs[xs.size - 1 - k]?
    rw [show (((xs.size : Int) - 1) + (k : Int) * (-1)).toNat = xs.size - 1 - k by omega]
  rw [h, PySem.W.krv_range, List.filterMap_reverse, PySem.W.krv_all]
theorem revPlaces (n : Nat) : Builtin.Slice.slicePlaces ((n : Int) - 1) (-1) (-1) = n := by
  unfold Builtin.Slice.slicePlaces
  rw [if_neg (by decide)]
  by_cases h : (n : Int) - 1 > -1
  · rw [if_pos h, show (-(-1) : Int) = 1 by decide, Int.ediv_one]
    omega
  · rw [if_neg h]
    omega
theorem getItem_tuple_rev {t sl : Addr} {items : Array Value} {vs : Value} {Q : Value → Shared → Prop} (ht : IsTup s.heap t items) (hs : s.heap.IsSliceOf sl .none .none vs) (ps : IsPart vs (some (-1)))
    (h : Q (.ref s.heap.objs.size) { s with heap := s.heap.push { cls := .type "tuple", data := .seq items.toList.reverse.toArray } }) (hsz : items.size ≤ sizeLine) : wpAny (model prog w) A (getItem (.ref t) (.ref sl)) Q E s := by
  have hz : sizeOk (.seq items.toList.reverse.toArray) := by
    show items.toList.reverse.toArray.size ≤ sizeLine
    rw [List.size_toArray, List.length_reverse, Array.length_toList]
    exact hsz
  obtain ⟨os, hos, hcs, hds⟩ := id hs
  have hTs : s.TypeIs (.ref sl) "slice" := ⟨os, hos, hcs⟩
  unfold getItem
  try with_reducible refine wpAny_holding ?_
  first | refine wpAny_bind (wpAny_pure ?_) | skip
  refine wpAny_bind (wpAny_sequenceKey ht.typeIs (by decide) ?_)
  refine wpAny_bind (wpAny_callSpecial?_slot (name := Str.ofString "__getitem__") ht.typeIs PyProof.Rows.slot_tuple_getitem
    (wpAny_call_entry PyProof.Rows.slot_tuple_getitem ht.typeIs entry_tuple_getitem ?_ (args_tuple_getitem _ _)))
  show wpAny _ _ (Builtin.Tuple.tupleItemsOf (.ref t) >>= _) _ _ s
  refine wpAny_bind (tupleItemsOf_ ht ?_)
  refine wpAny_bind (wpAny_typeOf hTs ?_)
  rw [if_pos (by decide)]
  refine wpAny_bind (?_ : wpAny _ _ (Builtin.Slice.sliceApplied (.ref sl) (pure (items.size : Int))) _ _ _)
  unfold Builtin.Slice.sliceApplied Builtin.Slice.sliceFields
  refine wpAny_bind (wpAny_bind (wpAny_field hos hds (x := .none) rfl (wpAny_bind (wpAny_field hos hds (x := .none) rfl (wpAny_bind (wpAny_field hos hds (x := vs) rfl (wpAny_pure ?_)))))))
  refine wpAny_bind (HT.slicePart_ ps ?_)
  show wpAny _ _ (if ((-1 : Int) == 0) = true then _ else _) _ _ s
  rw [if_neg (by decide)]
  refine wpAny_bind (HT.slicePart_ .none (wpAny_bind (HT.slicePart_ .none (wpAny_bind (wpAny_pure ?_)))))
  show wpAny _ _ (pure (((items.size : Int) - 1), (-1 : Int), Builtin.Slice.slicePlaces ((items.size : Int) - 1) (-1) (-1))) _ _ s
  rw [revPlaces]
  refine wpAny_pure ?_
  have hno : ¬ ((((items.size : Int) - 1) == 0 && (-1 : Int) == 1 && items.size == items.size) = true) := by
    rw [show ((-1 : Int) == 1) = false from rfl, Bool.and_false, Bool.false_and]
    decide
  show wpAny _ _ (if (((items.size : Int) - 1) == 0 && (-1 : Int) == 1 && items.size == items.size) = true then _ else _) _ _ s
  rw [if_neg hno, revPick]
  first
    | exact wpAny_bind (m := Builtin.Tuple.tupleExact _) (wpAny_newObj_type (wpAny_pure ⟨_, rfl, wpAny_pure h⟩) hz)
    | exact wpAny_bind (m := Builtin.Tuple.tupleExact _) (wpAny_newObj_type (wpAny_bind (wpAny_pure (wpAny_pure ⟨_, rfl, wpAny_pure h⟩))) hz)
    | exact wpAny_bind (wpAny_bind (m := Builtin.Tuple.tupleExact _) (wpAny_newObj_type (wpAny_pure (wpAny_pure ⟨_, rfl, wpAny_pure h⟩)) hz))
    | exact wpAny_bind (wpAny_bind (m := Builtin.Tuple.tupleExact _) (wpAny_newObj_type (wpAny_pure ⟨_, rfl, wpAny_pure h⟩) hz))
end
section
variable {X : Cx}
def tRevT (K : PySem.W.Frag) (te : TE) : TE := fun σ H Q => te σ H fun x H1 => ∃ a xs, x = .ref a ∧ SqT K H1 a xs ∧ ∀ p, H1 p = none → Q (.ref p) (upd H1 p (.tup xs.reverse))
theorem pe_revT {e : Expr} {te : TE} {k : Nat} {p1 p2 p3 pos : Pos} (he : PE X e te) : PE X (.Subscript e (.Slice none none (some (.UnaryOp .USub (.Constant (.int 1) k p1) p2)) p3) pos) (tRevT X.K te) := by
  refine ⟨fun pins s σ H Q I h => Subscript_ (thn (he.run pins s σ H _ I h) fun v s1 ⟨x, H1, I1, r1, q1⟩ => ?_)⟩
  obtain ⟨a, xs, rfl, hx, q⟩ := q1
  cases r1
  have hst : PO X (some (.UnaryOp .USub (.Constant (.int 1) k p1) p2)) (tPart (tUn (rU fun i => .int (-i)) (tC (.int 1)))) := po_some (pe_un un_neg pe_int)
  refine wpAny_Slice (thn (po_none.run pins s1 σ H1 (fun o H2 => o = none ∧ H2 = H1) I1 ⟨rfl, rfl⟩) fun vl s2 ⟨l, H2, I2, pl, el, e2⟩ => ?_)
  subst el e2
  refine thn (po_none.run pins s2 σ H2 (fun o H3 => o = none ∧ H3 = H2) I2 ⟨rfl, rfl⟩) fun vu s3 ⟨u, H3, I3, pu, eu, e3⟩ => ?_
  subst eu e3
  refine thn (hst.run pins s3 σ H3 (fun o H4 => o = some (-1) ∧ H4 = H3) I3 ⟨1, rfl, -1, rfl, rfl, rfl⟩) fun vs s4 ⟨o, H4, I4, ps, eo, e4⟩ => ?_
  subst eo e4
  cases pl
  cases pu
  have I5 : Inv X pins σ H4 { s4 with heap := s4.heap.push { cls := .type "slice", data := .fields #[.none, .none, vs] } } := I4.kept (t' := s4.toks) fun b ob q => Heap.get?_push_of_some _ q
  obtain ⟨its, r, ht, hz⟩ := I5.tuple hx
  have hlen := r.length
  show wpAny (model X.prog X.w) X.A (subscriptTail e (.Slice none none (some (.UnaryOp .USub (.Constant (.int 1) k p1) p2)) p3) (.ref a) (.ref s4.heap.objs.size)) (EP X pins σ Q) X.xe { s4 with heap := s4.heap.push { cls := .type "slice", data := .fields #[.none, .none, vs] } }
  refine tail_any (ops := [.ref a, .ref s4.heap.objs.size]) ht.typeIs (PyProof.Rows.slot_tuple_getitem.lookup) ?_ (by with_unfolding_all rfl)
  refine getItem_tuple_rev ht (Heap.IsSliceOf.new _ .none .none vs) ps ?_ (by rw [List.size_toArray]; omega)
  refine ⟨.ref _, _, I5.laid (t' := s4.toks) (o := .tup xs.reverse) (fun b ob q => Heap.get?_push_of_some _ q) (Nat.le_refl _) ?_, rfl, q _ (I5.hok.fresh (Nat.le_refl _))⟩
  exact ⟨by rw [List.length_reverse]; exact hz, _, r.reverse, IsTup.new _ _⟩
end
theorem pe_reprK {X : Cx} {K : PySem.W.Frag} {p pos : Pos} {a : Expr} {ta : TE} (hK : X.K = K) (hgd : X.A.guards = some []) (hu : X.A.units + 64 < cLine) (hm : X.mg "repr" = none) (ha : PE X a ta) (hg : Gl X "repr" := by rfl) (h1 : starEach [a] X.env = (false, eval a X.env) :: starEach [] X.env := by rfl) :
    PE X (.Call (.Name "repr" p) [a] [] pos) (tCB (rRepr K) (tCons ta tNil)) := by
  subst hK
  exact pe_repr hgd hu hm ha hg h1
end L2
namespace RN
open PySem PySem.Spec L2
theorem ev_revT {W : Wd} {ρ : List Sl} {μ : List Cell} {ta : TE} {K : PySem.W.Frag} {ds : List D} (ha : EvP W ta ρ μ (Is (.tup ds))) : EvP W (tRevT K ta) ρ μ (Is (.tup ds.reverse)) := fun σ H s Q q =>
  ha σ H s _ fun v H1 d e1 s1 r1 p1 => by
    rw [show d = _ from p1] at r1
    obtain ⟨a, xs, rfl, nU, ea, rl⟩ := r1
    refine ⟨a, xs, rfl, .inl (.inl ea), fun p hp => ?_⟩
    have hs := same_new (o := HO.tup xs.reverse) hp
    exact q (.ref p) _ (.tup ds.reverse) (e1.trans (Ch.of hs)) (s1.same hs) ⟨p, _, rfl, Stt.notU s1.sto hp, by unfold upd; rw [if_pos rfl], (rl.reverse).kept (Kept.of hs)⟩ rfl
end RN
end

section
set_option Elab.async false
set_option linter.all false
set_option maxRecDepth 100000
set_option maxHeartbeats 4000000
set_option autoImplicit false
/-! RN_L5: the law's judging of steps and ways. -/
namespace RN
open PySem PySem.Spec L2
abbrev spLStep (CN : Addr) : Sp := spG (α := List Wi × D) CN (fun z => [wsD z.1, z.2]) (fun z => z.1.length ≤ 24 ∧ z.2.ok) fun z => .bl (stepOk z.1.length z.2)
def kD (k : Nat) : D := .int (k : Int)
def wayEnd (ws : List Wi) (s : Nat) (v : D) : Option (List Nat) := if areSteps ws.length v = true then (wayK ws (unSteps v) s).map (s :: ·) else none
def oL : Option (List Nat) → D
  | none => .non
  | some ks => .lst (ks.map kD)
abbrev spLWayEnd (CN : Addr) : Sp := spG (α := List Wi × Nat × D) CN (fun z => [wsD z.1, .int (z.2.1 : Int), z.2.2]) (fun z => z.1.length ≤ 24 ∧ z.2.2.ok) fun z => oL (wayEnd z.1 z.2.1 z.2.2)
theorem stepOk_isI {a b : D} (n : Nat) : stepOk n (.tup [a, b]) = ((List.range n).any (fun i => a.isI (i : Int)) && (b.isI 1 || b.isI (-1))) := by
  unfold stepOk isPair pairWhole stepIn
  cases a with
  | int w =>
    have hw : (List.range n).any (fun i => (D.int w).isI (i : Int)) = (decide (0 ≤ w) && decide (w < (n : Int))) := by
      rw [Bool.eq_iff_iff, List.any_eq_true, Bool.and_eq_true, decide_eq_true_eq, decide_eq_true_eq]
      refine ⟨fun ⟨i, hi, e⟩ => ?_, fun ⟨h1, h2⟩ => ⟨w.toNat, List.mem_range.mpr (by omega), ?_⟩⟩
      · have e' : w = (i : Int) := of_decide_eq_true e
        have := List.mem_range.mp hi
        omega
      · show decide (w = ((w.toNat : Nat) : Int)) = true
        rw [decide_eq_true_eq]
        omega
    rw [hw]
    cases b with
    | int y =>
      show (true && (true && true && ((decide (0 ≤ w) && decide (w < (n : Int))) && (decide (1 = y) || decide (-1 = y))))) = ((decide (0 ≤ w) && decide (w < (n : Int))) && (decide (y = 1) || decide (y = -1)))
      rw [show decide ((1 : Int) = y) = decide (y = 1) from by simp only [eq_comm], show decide ((-1 : Int) = y) = decide (y = -1) from by simp only [eq_comm]]
      simp only [Bool.true_and]
    | _ => simp [D.isI]
  | _ => simp [D.isI]
theorem ok_int {i : Int} (h : i.natAbs ≤ 10 ^ 64) : (D.int i).ok := by
  unfold D.ok
  rw [sm_int]
  exact decide_eq_true h
theorem eqS_shown {a : D} (h : a.pln = true) (i : Int) : D.eqS (.str (Str.ofString (toString i))) (.str a.py.shown) = a.isI i := by
  rw [← shown_isI h i]
  show (Str.ofString (toString i) == a.py.shown) = _
  rw [Bool.eq_iff_iff, beq_iff_eq, decide_eq_true_eq]
  exact eq_comm
theorem names_any {a : D} (h : a.pln = true) (n : Nat) : (((upto n).map fun d => D.str d.py.shown).any fun d => d.eqS (.str a.py.shown)) = (List.range n).any fun i => a.isI (i : Int) := by
  unfold upto
  rw [List.map_map, List.any_map]
  refine congrArg (fun g => List.any (List.range n) g) (funext fun i => ?_)
  show D.eqS (.str (D.int (i : Int)).py.shown) (.str a.py.shown) = _
  rw [← eqS_shown h]
  unfold D.py PyData.shown
  rfl
theorem ones_any {a : D} (h : a.pln = true) : ([D.str "1", D.str "-1"].any fun d => d.eqS (.str a.py.shown)) = (a.isI 1 || a.isI (-1)) := by
  rw [← eqS_shown h, ← eqS_shown h]
  show (D.eqS (.str (Str.ofString "1")) (.str a.py.shown) || (D.eqS (.str (Str.ofString "-1")) (.str a.py.shown) || false)) = _
  rw [Bool.or_false]
  rfl
section
variable {P : Program} {w : World} {K : PySem.W.Frag} {mg : Str → Option Value} {base : Heap} {CN CP : Addr} {f : Addr} {fd : FuncData}
theorem ok_law_is_step (B : Bf mg) (g : mg "_law_is_step" = some (.ref f)) (F : FnP K "_law_is_step" s_law_is_step f fd) : CalG P w K mg base CX0 1 "_law_is_step" ["_law_wires_here", "_law_value"] (spLStep CN) := by
  refine cal_mkG g F (fun _ _ _ _ _ _ us hl => match us, hl with | [_, _], _ => rfl) (fn_NG _ _ _ F sc_law_is_step (fun _ => rfl) fun cdv A outer s H E hr hgd z hz => ?_)
  obtain ⟨ws, v⟩ := z
  obtain ⟨h24, hv⟩ := hz
  replace h24 : ws.length ≤ 24 := h24
  replace hv : v.ok := hv
  refine ⟨_, (pss_cons (ps_if (PW.pt (pw_or (pt_not (pt_val (pe_isi B.b_isinstance (pv 1) (pe_tyn (n := "tuple") B.b_tuple PyProof.Rows.boot_tuple)))) (pw_or1 (pt_cmpR op_ne (pe_len B.b_len (pv 1)) pe_int (nomark _))))) (pss_one (ps_ret pe_bl)) pss_nil) (pss_one (ps_ret (pe_and (pe_cmpR op_in_seq (pe_reprK (K := K) rfl hgd hr.units B.b_repr (pe_ix ix_tup (pv 1) pe_int (fun _ _ => rfl))) (pe_lc (own := [("_law_wire", 2)]) (g := (gName 2)) rfl sc_law_is_step.nd (pi_range1 rfl B.b_range (pa_cons (pe_len B.b_len (pv 0)) pa_nil)) (blkOk_by (own := [("_law_wire", 2)]) (N := n_law_is_step) (sc := defScope s_law_is_step) (by decide +kernel)) (fun _ _ _ _ _ => (pg_name (i := 2) sc_law_is_step.nd rfl (by first | exact Or.inl rfl | exact Or.inr rfl))) (fun _ _ _ _ _ => pts_nil) (fun _ _ _ _ _ => (pe_reprK (K := K) rfl hgd hr.units B.b_repr (pv 2)))) (by rfl)) (pe_one (pe_cmpR op_in_seq (pe_reprK (K := K) rfl hgd hr.units B.b_repr (pe_ix ix_tup (pv 1) pe_int (fun _ _ => rfl))) (pe_tup (pa_cons pe_str (pa_cons pe_str pa_nil))) (by rfl))))))), fun U => ?_⟩
  have hpl : v.pl := vl_pl (ok_vl hv)
  have leave : ∀ {ts : TS}, isPair v = false → EvB ⟨CN, U, U, [], 0⟩ (tOr (tNot (tB (tCB (rIsi K) (tCons (tVar 1) (tCons (tC (.ty "tuple")) tNil))))) (tTest (tOp rNe (tCB (rLenS K) (tCons (tVar 1) tNil)) (tC (.int 2))))) [.d (wsD ws), .d v, .no] [] (Is true) := fun hp => by
    cases v with
    | tup ds =>
      have hl : ds.length ≠ 2 := fun e => by
        match ds, e with
        | [a, b], _ => cases hp
      refine EvB.to (eb_or (a := false) (b := true) (EvB.to (eb_not (eb_B (ev_isT (x := .tup ds) (ev_var rfl)))) rfl) fun _ => EvB.to (eb_T (ev_neI (ev_lenT (ds := ds) (ev_var rfl)) ev_int)) ?_) rfl
      rw [Bool.not_eq_true', decide_eq_false_iff_not]
      omega
    | net _ _ => cases (ok_vl hv)
    | ah _ _ => cases (ok_vl hv)
    | dt _ _ => cases (ok_vl hv)
    | ty _ => cases (ok_vl hv)
    | cls _ => cases (ok_vl hv)
    | _ => exact EvB.to (eb_or (a := true) (b := true) (EvB.to (eb_not (eb_B (ev_isT (ev_var rfl)))) rfl) fun h => nomatch h) rfl
  cases hp : isPair v with
  | false =>
    refine sv_guard (b := true) (leave (ts := tNext) hp) (fun _ => sv_ret1 ev_bl (congrArg D.bl ?_)) fun h => nomatch h
    show false = stepOk ws.length v
    unfold stepOk
    rw [hp]
    rfl
  | true =>
    obtain ⟨a, b, rfl⟩ : ∃ a b, v = .tup [a, b] := by
      unfold isPair at hp
      split at hp
      · exact ⟨_, _, rfl⟩
      · cases hp
    have ha : a.ok := ok_item hv List.mem_cons_self
    have hb : b.ok := ok_item hv (List.mem_cons_of_mem _ List.mem_cons_self)
    refine sv_guard (b := false) (EvB.to (eb_or (a := false) (b := false) (EvB.to (eb_not (eb_B (ev_isT (x := .tup [a, b]) (ev_var rfl)))) rfl) fun _ => EvB.to (eb_T (ev_neI (ev_lenT (ds := [a, b]) (ev_var rfl)) ev_int)) rfl) rfl) (fun h => nomatch h) fun _ => ?_
    refine sv_ret1 (EvP.to (ev_andV (a := (List.range ws.length).any fun i => a.isI (i : Int)) (b := b.isI 1 || b.isI (-1)) (EvP.to (ev_op1 (ev_repr ha (ev_ixT (i := 0) (ds := [a, b]) rfl (ev_var rfl) ev_int)) (ev_map (f := fun d => .str d.py.shown) (iv_rng (ea_cons (ev_lenT (ds := ws.map Wi.d) (ev_var rfl)) ea_nil) (by rw [List.length_map]; omega)) (wp_name (by decide)) (by rw [upto_len, Int.toNat_natCast, List.length_map]; omega) fun i d p acc hd => ?_) (od_in (.inr rfl) rfl ?_)) (congrArg D.bl ?_)) fun _ => EvP.to (ev_op1 (ev_repr hb (ev_ixT (i := 1) (ds := [a, b]) rfl (ev_var rfl) ev_int)) (ev_tup1 (ea_cons ev_str (ea_cons ev_str ea_nil)) (Nat.le_of_ble_eq_true rfl)) (od_in (.inl rfl) rfl rfl)) (congrArg D.bl ?_)) (congrArg D.bl (stepOk_isI ws.length).symm)) rfl
    · have hi := (List.getElem?_eq_some_iff.mp hd).1
      rw [upto_len] at hi
      rw [upto_get hi] at hd
      cases hd
      refine gv_name ⟨rfl, ev_repr (d := .int (i : Int)) (ok_int ?_) (ev_var rfl)⟩
      rw [List.length_map, Int.toNat_natCast] at hi
      omega
    · exact List.all_eq_true.mpr fun d hd => by
        obtain ⟨x, _, rfl⟩ := List.mem_map.mp hd
        rfl
    · rw [if_neg Bool.false_ne_true, Int.toNat_natCast, List.length_map]
      exact names_any (vl_pln (ok_vl ha)) ws.length
    · rw [if_neg Bool.false_ne_true]
      exact ones_any (vl_pln (ok_vl hb))
theorem ok_law_way_end (B : Bf mg) (C_law_is_step : CalG P w K mg base CX0 1 "_law_is_step" ["_law_wires_here", "_law_value"] (spLStep CN)) (g : mg "_law_way_end" = some (.ref f)) (F : FnP K "_law_way_end" s_law_way_end f fd) : CalG P w K mg base CX0 2 "_law_way_end" ["_law_wires_here", "_law_start", "_law_value"] (spLWayEnd CN) := by
  refine cal_mkG g F (fun _ _ _ _ _ _ us hl => match us, hl with | [_, _, _], _ => rfl) (fn_NG _ _ _ F sc_law_way_end (fun _ => rfl) fun cdv A outer s H E hr hgd z hz => ?_)
  obtain ⟨ws, s0, v⟩ := z
  obtain ⟨h24, hv⟩ := hz
  replace h24 : ws.length ≤ 24 := h24
  replace hv : v.ok := hv
  refine ⟨_, (pss_cons (ps_set (i := 3) sc_law_way_end.nd rfl (by first | exact Or.inl rfl | exact Or.inr rfl) (pe_lst (pa_cons (pv 1) pa_nil))) (pss_cons (ps_if (pt_not (pt_val (pe_isi B.b_isinstance (pv 2) (pe_tyn (n := "tuple") B.b_tuple PyProof.Rows.boot_tuple)))) (pss_one (ps_ret pe_non)) pss_nil) (pss_cons (ps_for PassesOwn.never rfl (pi_tup (pv 2)) (pg_name (i := 4) sc_law_way_end.nd rfl (by first | exact Or.inl rfl | exact Or.inr rfl)) (pss_cons (ps_if (pt_not (pt_val (pe_ownG C_law_is_step (hr.mono (by decide)) hgd rfl pass0 (pa_cons (pv 0) (pa_cons (pv 4) pa_nil))))) (pss_one (ps_ret pe_non)) pss_nil) (pss_cons (ps_set (i := 5) sc_law_way_end.nd rfl (by first | exact Or.inl rfl | exact Or.inr rfl) (pe_ifExp (pt_cmpR op_eq (pe_ix ix_tup (pv 4) pe_int (fun _ _ => rfl)) pe_int (nomark _)) (pe_slice sl_tupA (pe_ix ix_tup (pv 0) (pe_ix ix_tup (pv 4) pe_int (fun _ _ => rfl)) (fun _ _ => rfl)) po_none (po_some pe_int)) (pe_revT (pe_slice sl_tupA (pe_ix ix_tup (pv 0) (pe_ix ix_tup (pv 4) pe_int (fun _ _ => rfl)) (fun _ _ => rfl)) po_none (po_some pe_int))))) (pss_cons (ps_if (pt_cmpR op_ne (pe_ix ix_tup (pv 5) pe_int (fun _ _ => rfl)) (pe_ix ix_list (pv 3) (pe_un un_neg pe_int) (fun _ _ => rfl)) (nomark _)) (pss_one (ps_ret pe_non)) pss_nil) (pss_one (ps_expr (pe_bm PySem.F.plainAttrs_list PySem.F.slot_list_append PySem.F.type_list_append mt_append (pv 3) (pa_cons (pe_ix ix_tup (pv 5) pe_int (fun _ _ => rfl)) pa_nil)))))))) (pss_one (ps_ret (pv 3)))))), fun U => ?_⟩
  have hpl : v.pl := vl_pl (ok_vl hv)
  refine sv_new (ef_lst (PA := Is [.int (s0 : Int)]) (ea_cons (ev_var rfl) ea_nil) (fun ds e => by rw [show ds = _ from e]; exact Nat.le_of_ble_eq_true rfl)) fun p c fr hc => ?_
  obtain ⟨ds, rfl, e⟩ := hc
  rw [show ds = _ from e]
  refine sv_guard (b := !v.isT) (eb_not (eb_B (ev_isT (ev_var rfl)))) (fun hb => ?_) fun hb => ?_
  · refine sv_ret1 ev_non ?_
    show D.non = oL (wayEnd ws s0 v)
    unfold wayEnd
    rw [if_neg fun z => ?_]
    · rfl
    · cases v with
      | tup ds => cases hb
      | _ => cases z
  · obtain ⟨ds, rfl⟩ : ∃ ds, v = .tup ds := by
      cases v with
      | tup ds => exact ⟨_, rfl⟩
      | _ => cases hb
    have hlen : ds.length ≤ 12 := (sm_tup hv).1
    refine sv_seq (N1 := fun ρ' μ' => ∃ ks x y, ds.all (stepOk ws.length) = true ∧ wayK ws (ds.map unStep) s0 = some ks ∧ μ' = [.ml ((s0 :: ks).map kD)] ∧ ρ' = [.d (wsD ws), .d (.int (s0 : Int)), .d (.tup ds), .c 0, x, y])
      (sv_for (ds := ds) (fun i ρ' μ' => ∃ ks x y, (ds.take i).all (stepOk ws.length) = true ∧ wayK ws ((ds.map unStep).take i) s0 = some ks ∧ μ' = [.ml ((s0 :: ks).map kD)] ∧ ρ' = [.d (wsD ws), .d (.int (s0 : Int)), .d (.tup ds), .c 0, x, y])
        (iv_tup (ev_var rfl)) ⟨[], _, _, rfl, rfl, rfl, rfl⟩ (fun i d ρ' μ' hd inv => ?_) fun ρ' μ' h => ?_) fun ρ' μ' h => ?_
    · obtain ⟨ks, x, y, hall, hks, rfl, rfl⟩ := inv
      have hmem := List.mem_of_getElem? hd
      have hdo : d.ok := ok_item hv hmem
      have hi : i < ds.length := (List.getElem?_eq_some_iff.mp hd).1
      refine gv_name (sv_guard (b := !stepOk ws.length d) (eb_not (eb_B (ev_callG (ws, d) (ea_cons (ev_var rfl) (ea_cons (ev_var rfl) ea_nil)) ⟨h24, hdo⟩))) (fun hb => ?_) fun hb => ?_)
      · refine sv_ret1 ev_non ?_
        show D.non = oL (wayEnd ws s0 (.tup ds))
        unfold wayEnd
        rw [if_neg fun z => ?_]
        · rfl
        · have := List.all_eq_true.mp (show ds.all (stepOk ws.length) = true from z) d hmem
          rw [this] at hb
          cases hb
      · rw [Bool.not_eq_false'] at hb
        obtain ⟨q, rfl, hq⟩ := stepOk_is hb
        have hu : unStep (stD q) = q := by
          show (((q.1 : Int)).toNat, q.2) = q
          rw [Int.toNat_natCast]
        have hqi : (ds.map unStep)[i]? = some q := by rw [List.getElem?_map, hd]; exact congrArg some hu
        have htake : (ds.map unStep).take (i + 1) = (ds.map unStep).take i ++ [q] := by
          rw [List.take_add_one, hqi]
          rfl
        have hall2 : (ds.take (i + 1)).all (stepOk ws.length) = true := by
          rw [List.take_add_one, hd, List.all_append, hall]
          show (true && (stepOk ws.length (stD q) && true)) = true
          rw [hb]
          rfl
        have hsn := wayK_snoc ws q ((ds.map unStep).take i) s0
        rw [hks, ← htake] at hsn
        have hw : ws[q.1]? = some (wireAt ws q.1) := by
          unfold wireAt
          rw [List.getD_eq_getElem?_getD, List.getElem?_eq_getElem hq.1]
          rfl
        have hat : atI (ws.map Wi.d) (q.1 : Int) = some (wireAt ws q.1).d := atI_nat (by rw [List.getElem?_map, hw]; rfl)
        refine sv_let1 (d := .tup [kD (endsOf ws q).1, kD (endsOf ws q).2]) (ev_if (b := decide (q.2 = 1)) (eb_T (ev_eqI (ev_ixT (i := 1) (ds := [.int (q.1 : Int), .int q.2]) rfl (ev_var rfl) ev_int) ev_int)) (fun hb => EvP.to (ev_slT (ds := [.int ((wireAt ws q.1).t : Int), .int ((wireAt ws q.1).h : Int), (wireAt ws q.1).r.d]) (ev_ixT (i := (q.1 : Int)) (ds := ws.map Wi.d) hat (ev_var rfl) (ev_ixT (i := 0) (ds := [.int (q.1 : Int), .int q.2]) rfl (ev_var rfl) ev_int)) eo_none (eo_some ev_int)) ?_)
          fun hb => EvP.to (ev_revT (ds := [.int ((wireAt ws q.1).t : Int), .int ((wireAt ws q.1).h : Int)]) (EvP.to (ev_slT (ds := [.int ((wireAt ws q.1).t : Int), .int ((wireAt ws q.1).h : Int), (wireAt ws q.1).r.d]) (ev_ixT (i := (q.1 : Int)) (ds := ws.map Wi.d) hat (ev_var rfl) (ev_ixT (i := 0) (ds := [.int (q.1 : Int), .int q.2]) rfl (ev_var rfl) ev_int)) eo_none (eo_some ev_int)) rfl)) ?_) ?_
        · rw [decide_eq_true_eq] at hb
          unfold endsOf
          rw [if_pos hb]
          rfl
        · rw [decide_eq_false_iff_not] at hb
          unfold endsOf
          rw [if_neg hb]
          rfl
        refine sv_guard (b := !decide (((endsOf ws q).1 : Int) = (lastK s0 ks : Int))) (eb_T (ev_neI (ev_ixT (i := 0) (ds := [kD (endsOf ws q).1, kD (endsOf ws q).2]) rfl (ev_var rfl) ev_int) (ev_ixC (j := 0) (k := -1) rfl rfl (atI_lastK s0 ks) (ev_un ev_int)))) (fun hb => ?_) fun hb => ?_
        · rw [Bool.not_eq_true', decide_eq_false_iff_not] at hb
          refine sv_ret1 ev_non ?_
          have hnone : wayK ws ((ds.map unStep).take (i + 1)) s0 = none := by
            rw [hsn]
            show (if (endsOf ws q).1 = lastK s0 ks then _ else none) = none
            rw [if_neg (by omega)]
          have := wayK_none ws ((ds.map unStep).take (i + 1)) ((ds.map unStep).drop (i + 1)) s0 hnone
          rw [List.take_append_drop] at this
          show D.non = oL (wayEnd ws s0 (.tup ds))
          unfold wayEnd
          rw [show unSteps (.tup ds) = ds.map unStep from rfl, this, Option.map_none, ite_self]
          rfl
        · rw [Bool.not_eq_false', decide_eq_true_eq] at hb
          have hl2 := wayK_len ws _ _ _ hks
          rw [List.length_take, List.length_map] at hl2
          refine sv_app (j := 0) (P := Is (kD (endsOf ws q).2)) rfl rfl (by rw [List.length_map, List.length_cons]; omega) (ev_ixT (i := 1) (ds := [kD (endsOf ws q).1, kD (endsOf ws q).2]) rfl (ev_var rfl) ev_int) fun d e => ⟨ks ++ [(endsOf ws q).2], _, _, hall2, ?_, ?_, rfl⟩
          · rw [hsn]
            show (if (endsOf ws q).1 = lastK s0 ks then some (ks ++ [(endsOf ws q).2]) else none) = _
            rw [if_pos (by omega)]
          · rw [show d = _ from e, ← List.cons_append, List.map_append]
            rfl
    · rw [List.take_length, show ds.length = (ds.map unStep).length from by rw [List.length_map], List.take_length] at h
      exact h
    · obtain ⟨ks, x, y, hall, hks, rfl, rfl⟩ := h
      refine sv_frz (μ := []) (c := .ml _) [3] (i := 3) fr (sv_ret1 (ev_var rfl) ?_)
      show D.lst ((s0 :: ks).map kD) = oL (wayEnd ws s0 (.tup ds))
      unfold wayEnd
      rw [if_pos (show areSteps ws.length (.tup ds) = true from hall), show unSteps (.tup ds) = ds.map unStep from rfl, hks]
      rfl
end
end RN
end

section
set_option Elab.async false
set_option linter.all false
set_option maxRecDepth 100000
set_option maxHeartbeats 4000000
set_option autoImplicit false
/-! RN_L6: the law's length of a way, loops that bar. -/
namespace RN
open PySem PySem.Spec L2
abbrev spLLen (CN : Addr) : Sp := spG (α := List Rg × List (Nat × Int)) CN (fun z => [rsD z.1, stepsD z.2]) (fun z => (∀ p ∈ z.2, StepIn z.1.length p) ∧ z.2.length ≤ 12) fun z => oD (lenOf z.1 z.2)
/-- the end that a step's length comes from -/
def endO (rs : List Rg) (p : Nat × Int) : Option Int := if p.2 = 1 then (rangeAt rs p.1).1 else (rangeAt rs p.1).2
def sgn (p : Nat × Int) (x : Int) : Int := if p.2 = 1 then -x else x
theorem stepLen_end (rs : List Rg) (p : Nat × Int) : stepLen rs p = (endO rs p).map (sgn p) := by
  unfold stepLen endO
  by_cases h : p.2 = 1
  · rw [if_pos h, if_pos h, show sgn p = fun x => -x from funext fun x => if_pos h]
  · rw [if_neg h, if_neg h, show sgn p = id from funext fun x => if_neg h, Option.map_id, id]
theorem lenOf_none {rs : List Rg} : ∀ {st : List (Nat × Int)}, (st.map (endO rs)).any Option.isNone = true → lenOf rs st = none
  | [], h => by cases h
  | p :: st, h => by
    rw [List.map_cons, List.any_cons] at h
    show (match stepLen rs p, lenOf rs st with | some x, some y => some (x + y) | _, _ => none) = none
    rw [stepLen_end]
    cases e : endO rs p with
    | none => rfl
    | some x =>
      rw [e] at h
      rw [lenOf_none (st := st) h]
      rfl
theorem lenOf_some {rs : List Rg} : ∀ {st : List (Nat × Int)}, (st.map (endO rs)).any Option.isNone = false → lenOf rs st = some ((st.map fun p => sgn p ((endO rs p).getD 0)).sum)
  | [], _ => rfl
  | p :: st, h => by
    rw [List.map_cons, List.any_cons, Bool.or_eq_false_iff] at h
    show (match stepLen rs p, lenOf rs st with | some x, some y => some (x + y) | _, _ => none) = _
    rw [stepLen_end, lenOf_some h.2, List.map_cons, List.sum_cons]
    cases e : endO rs p with
    | none => rw [e] at h; cases h.1
    | some x => rfl
def endF (rs : List Rg) : D → D
  | .tup [_, s] => .int (sgn (unStep s) ((endO rs (unStep s)).getD 0))
  | _ => .non
theorem zip_ends (rs : List Rg) (st : List (Nat × Int)) : (zipD ((st.map (endO rs)).map oD) (st.map stD)).map (endF rs) = (st.map fun p => sgn p ((endO rs p).getD 0)).map D.int := by
  unfold zipD
  induction st with
  | nil => rfl
  | cons p st ih =>
    have hu : unStep (stD p) = p := by
      show (((p.1 : Int)).toNat, p.2) = p
      rw [Int.toNat_natCast]
    rw [List.map_cons, List.map_cons, List.map_cons, List.map_cons, List.map_cons, List.zip_cons_cons, List.map_cons, List.map_cons, ih]
    show D.int (sgn (unStep (stD p)) ((endO rs (unStep (stD p))).getD 0)) :: _ = _
    rw [hu]
section
variable {P : Program} {w : World} {K : PySem.W.Frag} {mg : Str → Option Value} {base : Heap} {CN CP : Addr} {f : Addr} {fd : FuncData}
theorem ok_law_length (B : Bf mg) (g : mg "_law_length" = some (.ref f)) (F : FnP K "_law_length" s_law_length f fd) : Cal P w K mg base CX0 1 "_law_length" ["_law_ranges", "_law_steps"] (spLLen CN) := by
  refine cal_mk g F (fun _ _ _ _ _ _ us hl => match us, hl with | [_, _], _ => rfl) (fn_N _ _ _ F sc_law_length (fun _ => rfl) fun cdv A outer s H E hr z hz => ?_)
  obtain ⟨rs, st⟩ := z
  obtain ⟨hst, hlen⟩ := hz
  replace hlen : st.length ≤ 12 := hlen
  replace hst : ∀ p ∈ st, StepIn rs.length p := hst
  refine ⟨_, (pss_cons (ps_setLc (i := 2) (own := [("_law_wire", 3), ("_law_way", 4)]) (g := (gTup _ 2 (gCons (gName 3) (gCons (gName 4) gNil)))) rfl sc_law_length.nd rfl rfl (sw_true rfl rfl rfl (by decide +kernel)) (pi_tup (pv 1)) (blkOk_by (own := [("_law_wire", 3), ("_law_way", 4)]) (N := n_law_length) (sc := defScope s_law_length) (by decide +kernel)) (fun _ _ _ _ _ => (pg_tup rfl (pgs_cons (pg_name (i := 3) sc_law_length.nd rfl (by first | exact Or.inl rfl | exact Or.inr rfl)) (pgs_cons (pg_name (i := 4) sc_law_length.nd rfl (by first | exact Or.inl rfl | exact Or.inr rfl)) pgs_nil)))) (fun _ _ _ _ _ => pts_nil) (fun _ _ _ _ _ => (pe_ifExp (pt_cmpR op_eq (pv 4) pe_int (nomark _)) (pe_ix (ix_tupK (K := K) rfl) (pe_ix (ix_tupK (K := K) rfl) (pv 0) (pv 3) (fun _ _ => rfl)) pe_int (fun _ _ => rfl)) (pe_ix (ix_tupK (K := K) rfl) (pe_ix (ix_tupK (K := K) rfl) (pv 0) (pv 3) (fun _ _ => rfl)) pe_int (fun _ _ => rfl))))) (pss_cons (ps_if (pt_cmpR op_in_seq pe_non (pv 2) (by rfl)) (pss_one (ps_ret pe_non)) pss_nil) (pss_one (ps_ret (pe_sum rfl B.b_sum (pe_lc (own := [("_law_end", 5), ("_law_wire", 3), ("_law_way", 4)]) (g := (gTup _ 2 (gCons (gName 5) (gCons (gTup _ 2 (gCons (gName 3) (gCons (gName 4) gNil))) gNil)))) rfl sc_law_length.nd (pi_zipM (c1 := false) (c2 := true) rfl B.b_zip (pa_cons (pv 2) (pa_cons (pv 1) pa_nil))) (blkOk_by (own := [("_law_end", 5), ("_law_wire", 3), ("_law_way", 4)]) (N := n_law_length) (sc := defScope s_law_length) (by decide +kernel)) (fun _ _ _ _ _ => (pg_tup rfl (pgs_cons (pg_name (i := 5) sc_law_length.nd rfl (by first | exact Or.inl rfl | exact Or.inr rfl)) (pgs_cons (pg_tup rfl (pgs_cons (pg_name (i := 3) sc_law_length.nd rfl (by first | exact Or.inl rfl | exact Or.inr rfl)) (pgs_cons (pg_name (i := 4) sc_law_length.nd rfl (by first | exact Or.inl rfl | exact Or.inr rfl)) pgs_nil))) pgs_nil)))) (fun _ _ _ _ _ => pts_nil) (fun _ _ _ _ _ => (pe_ifExp (pt_cmpR op_eq (pv 4) pe_int (nomark _)) (pe_un un_neg (pv 5)) (pv 5))))))))), fun U => ?_⟩
  have hlm : (st.map stD).length < 1000 := by
    rw [List.length_map]
    omega
  have hu : ∀ p, unStep (stD p) = p := fun p => by
    show (((p.1 : Int)).toNat, p.2) = p
    rw [Int.toNat_natCast]
  refine sv_let1 (d := .lst ((st.map (endO rs)).map oD)) (EvP.to (ev_map (f := fun d => oD (endO rs (unStep d))) (iv_tup (ds := st.map stD) (ev_var rfl)) (wp_tup (wps_cons (wp_name (by decide)) (wps_cons (wp_name (by decide)) wps_nil))) hlm fun i d p acc hd => ?_) (congrArg D.lst ?_)) ?_
  · obtain ⟨q, hq, rfl⟩ := getMap hd
    have hin := hst q (List.mem_of_getElem? hq)
    rw [hu]
    have hat : atI (rs.map rgD) (q.1 : Int) = some (rgD (rangeAt rs q.1)) := atI_nat (by rw [List.getElem?_map, rangeAt_get hin.1]; rfl)
    refine (gv_tup rfl (gs_cons (gv_name (gs_cons (gv_name (gs_nil ?_))))))
    refine ⟨rfl, ev_if (b := decide (q.2 = 1)) (eb_T (ev_eqI (ev_var rfl) ev_int)) (fun hb => EvP.to (ev_ixT (i := 0) (ds := [oD (rangeAt rs q.1).1, oD (rangeAt rs q.1).2]) rfl (ev_ixT (i := (q.1 : Int)) (ds := rs.map rgD) hat (ev_var rfl) (ev_var rfl)) ev_int) ?_) fun hb => EvP.to (ev_ixT (i := 1) (ds := [oD (rangeAt rs q.1).1, oD (rangeAt rs q.1).2]) rfl (ev_ixT (i := (q.1 : Int)) (ds := rs.map rgD) hat (ev_var rfl) (ev_var rfl)) ev_int) ?_⟩
    · rw [decide_eq_true_eq] at hb
      unfold endO
      rw [if_pos hb]
    · rw [decide_eq_false_iff_not] at hb
      unfold endO
      rw [if_neg hb]
  · rw [List.map_map, List.map_map]
    exact List.map_congr_left fun p _ => congrArg (fun q => oD (endO rs q)) (hu p)
  cases hn : (st.map (endO rs)).any Option.isNone with
  | true =>
    refine sv_guard (b := true) (EvB.to (eb_T (ev_op1 ev_non (ev_var rfl) (od_in (.inr rfl) rfl (allFlat _)))) (by rw [if_neg Bool.false_ne_true, anyNon, hn])) (fun _ => sv_ret1 ev_non ?_) fun h => nomatch h
    show D.non = oD (lenOf rs st)
    rw [lenOf_none hn]
    rfl
  | false =>
    refine sv_guard (b := false) (EvB.to (eb_T (ev_op1 ev_non (ev_var rfl) (od_in (.inr rfl) rfl (allFlat _)))) (by rw [if_neg Bool.false_ne_true, anyNon, hn])) (fun h => nomatch h) fun _ => ?_
    refine sv_ret1 (EvP.to (ev_sum (ns := st.map fun p => sgn p ((endO rs p).getD 0)) (EvP.to (ev_map (f := endF rs) (iv_zipM (c1 := false) (c2 := true) (ds := (st.map (endO rs)).map oD) (es := st.map stD) (ea_cons (ev_var rfl) (ea_cons (ev_var rfl) ea_nil))) (wp_tup (wps_cons (wp_name (by decide)) (wps_cons (wp_tup (wps_cons (wp_name (by decide)) (wps_cons (wp_name (by decide)) wps_nil))) wps_nil))) ?_ fun i d p acc hd => ?_) (congrArg D.lst (zip_ends rs st)))) ?_) rfl
    · unfold zipD
      rw [List.length_map, List.length_zip, List.length_map, List.length_map, List.length_map]
      omega
    · obtain ⟨d1, d2, q1, q2, rfl⟩ := zipD_getV hd
      obtain ⟨q, hq, rfl⟩ := getMap q2
      rw [List.getElem?_map, List.getElem?_map, hq] at q1
      cases q1
      obtain ⟨x, hx⟩ : ∃ x, endO rs q = some x := by
        cases e : endO rs q with
        | some x => exact ⟨x, rfl⟩
        | none =>
          have := List.any_eq_false.mp hn none (List.mem_map.mpr ⟨q, List.mem_of_getElem? hq, e⟩)
          exact absurd rfl this
      have hf : endF rs (.tup [oD (endO rs q), stD q]) = .int (sgn q x) := by
        show D.int (sgn (unStep (stD q)) ((endO rs (unStep (stD q))).getD 0)) = _
        rw [hu, hx]
        rfl
      rw [hf, hx]
      refine (gv_tup rfl (gs_cons (gv_name (gs_cons (gv_tup rfl (gs_cons (gv_name (gs_cons (gv_name (gs_nil (gs_nil ?_)))))))))))
      refine ⟨rfl, ev_if (b := decide (q.2 = 1)) (eb_T (ev_eqI (ev_var rfl) ev_int)) (fun hb => EvP.to (ev_un (ev_var rfl)) ?_) fun hb => EvP.to (ev_var rfl) ?_⟩
      · rw [decide_eq_true_eq] at hb
        unfold sgn
        rw [if_pos hb]
      · rw [decide_eq_false_iff_not] at hb
        unfold sgn
        rw [if_neg hb]
        rfl
    · show D.int _ = oD (lenOf rs st)
      rw [lenOf_some hn]
      rfl
end
end RN
end

section
set_option Elab.async false
set_option linter.all false
set_option maxRecDepth 100000
set_option maxHeartbeats 4000000
set_option autoImplicit false
/-! RN_L7: the law's lots that can rise. -/
namespace RN
open PySem PySem.Spec L2
abbrev spLCan (CN : Addr) : Sp := spG (α := List Wi × List Rg × List Nat) CN (fun z => [wsD z.1, rsD z.2.1, .tup (lotL z.2.2)]) (fun z => z.2.1.length = z.1.length ∧ z.1.length ≤ 24) fun z => .bl (canRise z.1 z.2.1 (lotL z.2.2))
section
variable {P : Program} {w : World} {K : PySem.W.Frag} {mg : Str → Option Value} {base : Heap} {CN CP : Addr} {f : Addr} {fd : FuncData}
theorem ok_law_can_rise (B : Bf mg) (g : mg "_law_can_rise" = some (.ref f)) (F : FnP K "_law_can_rise" s_law_can_rise f fd) : Cal P w K mg base CX0 1 "_law_can_rise" ["_law_wires_here", "_law_ranges", "_law_lot"] (spLCan CN) := by
  refine cal_mk g F (fun _ _ _ _ _ _ us hl => match us, hl with | [_, _, _], _ => rfl) (fn_N _ _ _ F sc_law_can_rise (fun _ => rfl) fun cdv A outer s H E hr z hz => ?_)
  obtain ⟨ws, rs, l⟩ := z
  obtain ⟨hlen, h24⟩ := hz
  replace hlen : rs.length = ws.length := hlen
  refine ⟨_, (pss_cons (ps_for PassesOwn.never rfl (RZ.pi_zipA rfl B.b_zip (pa_cons (pv 0) (pa_cons (pv 1) pa_nil))) (pg_tup rfl (pgs_cons (pg_tup rfl (pgs_cons (pg_name (i := 3) sc_law_can_rise.nd rfl (by first | exact Or.inl rfl | exact Or.inr rfl)) (pgs_cons (pg_name (i := 4) sc_law_can_rise.nd rfl (by first | exact Or.inl rfl | exact Or.inr rfl)) (pgs_cons (pg_name (i := 5) sc_law_can_rise.nd rfl (by first | exact Or.inl rfl | exact Or.inr rfl)) pgs_nil)))) (pgs_cons (pg_tup rfl (pgs_cons (pg_name (i := 6) sc_law_can_rise.nd rfl (by first | exact Or.inl rfl | exact Or.inr rfl)) (pgs_cons (pg_name (i := 7) sc_law_can_rise.nd rfl (by first | exact Or.inl rfl | exact Or.inr rfl)) pgs_nil))) pgs_nil))) (pss_one (ps_if (PW.pt (pw_or (PW.pt (pw_and (pt_cmpR op_in_seq (pv 3) (pv 2) (by rfl)) (pw_and (pt_cmpR op_notIn_seq (pv 4) (pv 2) (by rfl)) (pw_and1 (pt_cmp (pc_notN (pv 7))))))) (pw_or1 (PW.pt (pw_and (pt_cmpR op_in_seq (pv 4) (pv 2) (by rfl)) (pw_and (pt_cmpR op_notIn_seq (pv 3) (pv 2) (by rfl)) (pw_and1 (pt_cmp (pc_notN (pv 6)))))))))) (pss_one (ps_ret pe_bl)) pss_nil))) (pss_one (ps_ret pe_bl))), fun U => ?_⟩
  have hzl : (zipD (ws.map Wi.d) (rs.map rgD)).length = ws.length := by
    unfold zipD
    rw [List.length_map, List.length_zip, List.length_map, List.length_map, hlen, Nat.min_self]
  refine sv_seq (N1 := fun ρ' μ' => μ' = [] ∧ canRise ws rs (lotL l) = true) (sv_for (ds := zipD (ws.map Wi.d) (rs.map rgD)) (fun i ρ' μ' => μ' = [] ∧ (∀ j, j < i → (!(inLot (lotL l) (wireAt ws j).t && (!inLot (lotL l) (wireAt ws j).h && (rangeAt rs j).2.isSome)) && !(inLot (lotL l) (wireAt ws j).h && (!inLot (lotL l) (wireAt ws j).t && (rangeAt rs j).1.isSome))) = true) ∧
      ∃ a b c d e, ρ' = [.d (wsD ws), .d (rsD rs), .d (.tup (lotL l)), a, b, c, d, e]) (iv_zip (ea_cons (ev_var rfl) (ea_cons (ev_var rfl) ea_nil))) ⟨rfl, fun j hj => absurd hj (Nat.not_lt_zero _), _, _, _, _, _, rfl⟩ (fun i d ρ' μ' hd inv => ?_) fun ρ' μ' h => ?_) fun ρ' μ' h => ?_
  · obtain ⟨rfl, hall, a, b, c, d', e, rfl⟩ := inv
    have hi : i < ws.length := by
      have := (List.getElem?_eq_some_iff.mp hd).1
      rw [hzl] at this
      exact this
    obtain ⟨d1, d2, q1, q2, rfl⟩ := zipD_getV hd
    rw [List.getElem?_map, wireAt_get hi] at q1
    rw [List.getElem?_map, rangeAt_get (by omega)] at q2
    cases q1
    cases q2
    have memb : ∀ (x : Nat) (neg : Bool), OpD ⟨CN, U, U, [], 0⟩ (rIn K neg) (.int (x : Int)) (.tup (lotL l)) (Is (.bl (if neg then !inLot (lotL l) x else inLot (lotL l) x))) := fun x neg => od_in (.inl rfl) rfl (lotL_flat l)
    refine (gv_tup rfl (gs_cons (gv_tup rfl (gs_cons (gv_name (gs_cons (gv_name (gs_cons (gv_name (gs_nil (gs_cons (gv_tup rfl (gs_cons (gv_name (gs_cons (gv_name (gs_nil (gs_nil ?_))))))))))))))))))
    refine sv_if (b := (inLot (lotL l) (wireAt ws i).t && (!inLot (lotL l) (wireAt ws i).h && (rangeAt rs i).2.isSome)) || (inLot (lotL l) (wireAt ws i).h && (!inLot (lotL l) (wireAt ws i).t && (rangeAt rs i).1.isSome))) (eb_or (eb_and (eb_T (ev_op1 (ev_var rfl) (ev_var rfl) (memb _ false))) fun _ => eb_and (eb_T (ev_op1 (ev_var rfl) (ev_var rfl) (memb _ true))) fun _ => EvB.to (eb_B (ev_notN (ev_var rfl))) (by cases (rangeAt rs i).2 <;> rfl)) fun _ => eb_and (eb_T (ev_op1 (ev_var rfl) (ev_var rfl) (memb _ false))) fun _ => eb_and (eb_T (ev_op1 (ev_var rfl) (ev_var rfl) (memb _ true))) fun _ => EvB.to (eb_B (ev_notN (ev_var rfl))) (by cases (rangeAt rs i).1 <;> rfl)) (fun hb => ?_) fun hb => sv_next ⟨rfl, fun j hj => ?_, _, _, _, _, _, rfl⟩
    · refine sv_ret1 ev_bl (congrArg D.bl ?_)
      cases q : canRise ws rs (lotL l) with
      | false => exact q.symm ▸ rfl
      | true =>
        unfold canRise at q
        have := List.all_eq_true.mp q i (List.mem_range.mpr hi)
        rw [← Bool.not_or, hb] at this
        cases this
    · by_cases e : j = i
      · rw [e, ← Bool.not_or, hb]
        rfl
      · exact hall j (by omega)
  · rw [hzl] at h
    obtain ⟨rfl, hall, _⟩ := h
    refine ⟨rfl, ?_⟩
    unfold canRise
    exact List.all_eq_true.mpr fun j hj => hall j (List.mem_range.mp hj)
  · obtain ⟨rfl, hc⟩ := h
    exact sv_ret1 ev_bl (congrArg D.bl hc.symm)
end
end RN
end

section
set_option Elab.async false
set_option linter.all false
set_option maxRecDepth 100000
set_option maxHeartbeats 4000000
set_option autoImplicit false
/-! RN_SortSet: sorted(set(t)) of a tuple of numbers. -/
namespace L2
open PySem PySem.Spec PyProof.Rows
def tSortSet (K : PySem.W.Frag) (ta : TE) : TE := fun σ H Q => ta σ H fun x H1 => ∃ (l : Addr) (ns : List Int), x = .ref l ∧ SqT K H1 l (ns.map V.int) ∧ ns.length < 60 ∧ ∀ (ms : List Int) (p : Addr), ms.Pairwise (· < ·) → (∀ k : Int, k ∈ ms ↔ k ∈ ns) → H1 p = none → Q (.ref p) (upd H1 p (.lst (ms.map V.int)))
theorem pe_sortset {X : Cx} {a : Expr} {ta : TE} {p p2 q pos : Pos} (hc : X.calm = true) (hm : X.mg "sorted" = none) (hm2 : X.mg "set" = none) (ha : PE X a ta) (hg : Gl X "sorted" := by rfl) (hg2 : Gl X "set" := by rfl)
    (na : starEach [a] X.env = (false, eval a X.env) :: starEach [] X.env := by rfl) : PE X (.Call (.Name "sorted" p) [.Call (.Name "set" p2) [a] [] q] [] pos) (tSortSet X.K ta) := by
  refine ⟨fun pins s σ H Q I h => ?_⟩
  refine PyProof.Rows.Call_ (ld_blt I hg hm PyProof.Rows.boot_sorted ?_)
  refine PyProof.Rows.callWith_builtin1 (PyProof.Rows.args_cons ?_ rfl) rfl rfl
  refine PyProof.Rows.Call_ (ld_blt I hg2 hm2 PyProof.Rows.boot_set ?_)
  refine PyProof.Rows.callWith_type1 (PyProof.Rows.args_cons (thn (ha.run pins s σ H _ I h) fun v s1 ⟨x, H1, I1, r1, q1⟩ => PyProof.Rows.args_nil ?_) na) na rfl
  obtain ⟨l, ns, rfl, hq, hl, q1⟩ := q1
  cases r1
  obtain ⟨its, r, pl, hz⟩ := I1.tuple hq
  refine call_set_tupI ns (I1.ok.hd hc) (show s1.heap.IsTuple l its.toArray from pl) (by simpa using RZ.intsAre_vals r) (by unfold scanBound; omega) fun h' tk c R1 hcn k => ?_
  refine PyProof.Rows.args_nil ?_
  have I2 : Inv X pins σ H1 { s1 with heap := h', toks := tk } := I1.kept k
  refine sorted_set R1 (I2.ok.hd hc) (by omega) fun s' p out c' ms k2 g o hp hg hi hs hmem hlen => ?_
  have hn : H1 p = none := I2.hok.fresh hp
  have hz2 : (ms.map V.int).length ≤ sizeLine := by rw [List.length_map, hlen, sizeLine_eq]; omega
  have J : Inv X pins σ (upd H1 p (.lst (ms.map V.int))) { ({ s1 with heap := h', toks := tk } : Shared) with heap := s'.heap, gens := s'.gens, drawn := s'.drawn, toks := s'.toks } :=
    I2.call (ch := []) (Un.laid k2 hp hn) (I2.hok.laid k2 hp ⟨hz2, out.toList, c', vals_of_ints hi, hg⟩) (by rw [g]; exact I2.bare) (fun _ z => nomatch z)
  have e : s' = { s1 with heap := s'.heap, gens := s'.gens, drawn := s'.drawn, toks := s'.toks } := by
    cases s'
    cases s1
    cases o
    rfl
  rw [e]
  exact ⟨.ref p, _, J, rfl, q1 ms p hs (fun j => by rw [hmem j, decide_eq_true_eq]) hn⟩
end L2
namespace RN
open PySem PySem.Spec L2
theorem ev_sortset {W : Wd} {ρ : List Sl} {μ : List Cell} {ta : TE} {K : PySem.W.Frag} {ns : List Int} (hl : ns.length < 60) (ha : EvP W ta ρ μ (Is (.tup (ns.map D.int)))) : EvP W (tSortSet K ta) ρ μ fun d => ∃ ms : List Int, d = .lst (ms.map D.int) ∧ ms.Pairwise (· < ·) ∧ ∀ k : Int, k ∈ ms ↔ k ∈ ns := fun σ H s Q q =>
  ha σ H s _ fun v H1 d e1 s1 r1 p1 => by
    rw [show d = _ from p1] at r1
    obtain ⟨a, xs, rfl, nU, ea, rl⟩ := r1
    rw [rl.ints] at ea
    refine ⟨a, ns, rfl, .inl (.inl ea), hl, fun ms p h1 h2 hp => ?_⟩
    have hs := same_new (o := HO.lst (ms.map V.int)) hp
    exact q (.ref p) _ (.lst (ms.map D.int)) (e1.trans (Ch.of hs)) (s1.same hs) ⟨p, _, rfl, Stt.notU s1.sto hp, by unfold upd; rw [if_pos rfl], rpl_ints ms⟩ ⟨ms, rfl, h1, h2⟩
end RN
end

section
set_option Elab.async false
set_option linter.all false
set_option maxRecDepth 100000
set_option maxHeartbeats 4000000
set_option autoImplicit false
/-! RN_L8: the law's lots. -/
namespace RN
open PySem PySem.Spec L2
abbrev spLLot (CN : Addr) : Sp := spG (α := Nat × D) CN (fun z => [.int (z.1 : Int), z.2]) (fun z => z.1 ≤ 12 ∧ z.2.ok) fun z => .bl (isLot z.1 z.2)
theorem inNames {d : D} (k : Nat) : ((List.range k).any fun i => d.isI (i : Int)) = knotIn k d := by
  cases d with
  | int w =>
    rw [Bool.eq_iff_iff, List.any_eq_true]
    show _ ↔ (decide (0 ≤ w) && decide (w < (k : Int))) = true
    rw [Bool.and_eq_true, decide_eq_true_eq, decide_eq_true_eq]
    refine ⟨fun ⟨i, hi, e⟩ => ?_, fun ⟨h1, h2⟩ => ⟨w.toNat, List.mem_range.mpr (by omega), ?_⟩⟩
    · have e' : w = (i : Int) := of_decide_eq_true e
      have := List.mem_range.mp hi
      omega
    · show decide (w = ((w.toNat : Nat) : Int)) = true
      rw [decide_eq_true_eq]
      omega
  | _ => exact List.any_eq_false.mpr fun i _ => Bool.false_ne_true
theorem ints_of {k : Nat} : ∀ {ds : List D}, ds.all (knotIn k) = true → ∃ ns : List Int, ds = ns.map D.int
  | [], _ => ⟨[], rfl⟩
  | d :: ds, h => by
    rw [List.all_cons, Bool.and_eq_true] at h
    obtain ⟨ns, rfl⟩ := ints_of h.2
    cases d with
    | int i => exact ⟨i :: ns, rfl⟩
    | _ => cases h.1
theorem rises_iff : ∀ ns : List Int, risesD (ns.map D.int) = true ↔ ns.Pairwise (· < ·)
  | [] => ⟨fun _ => List.Pairwise.nil, fun _ => rfl⟩
  | [a] => ⟨fun _ => List.pairwise_singleton _ _, fun _ => rfl⟩
  | a :: b :: r => by
    have ih := rises_iff (b :: r)
    show (decide (a < b) && risesD ((b :: r).map D.int)) = true ↔ _
    rw [Bool.and_eq_true, decide_eq_true_eq, ih, List.pairwise_cons (a := a)]
    refine ⟨fun ⟨h1, h2⟩ => ⟨fun x hx => ?_, h2⟩, fun ⟨h1, h2⟩ => ⟨h1 b List.mem_cons_self, h2⟩⟩
    rcases List.mem_cons.mp hx with e | hx
    · omega
    · have := (List.pairwise_cons.mp h2).1 x hx
      omega
theorem sorted_uniq : ∀ {l m : List Int}, l.Pairwise (· < ·) → m.Pairwise (· < ·) → (∀ x, x ∈ l ↔ x ∈ m) → l = m
  | [], [], _, _, _ => rfl
  | [], b :: m, _, _, h => absurd ((h b).mpr List.mem_cons_self) List.not_mem_nil
  | a :: l, [], _, _, h => absurd ((h a).mp List.mem_cons_self) List.not_mem_nil
  | a :: l, b :: m, h1, h2, h => by
    obtain ⟨h3, h4⟩ := List.pairwise_cons.mp h1
    obtain ⟨h5, h6⟩ := List.pairwise_cons.mp h2
    have e : a = b := by
      rcases List.mem_cons.mp ((h a).mp List.mem_cons_self) with e | e
      · exact e
      · rcases List.mem_cons.mp ((h b).mpr List.mem_cons_self) with e' | e'
        · exact e'.symm
        · have := h3 b e'
          have := h5 a e
          omega
    subst e
    refine congrArg (a :: ·) (sorted_uniq h4 h6 fun x => ⟨fun hx => ?_, fun hx => ?_⟩)
    · rcases List.mem_cons.mp ((h x).mp (List.mem_cons_of_mem _ hx)) with e | e
      · have := h3 x hx
        omega
      · exact e
    · rcases List.mem_cons.mp ((h x).mpr (List.mem_cons_of_mem _ hx)) with e | e
      · have := h5 x hx
        omega
      · exact e
theorem eqv_ints : ∀ ns ms : List Int, PyData.eqv (D.lst (ns.map D.int)).py (D.lst (ms.map D.int)).py = decide (ns = ms) := by
  have key : ∀ ns ms : List Int, PyData.eqvAll (pyL (ns.map D.int)) (pyL (ms.map D.int)) = decide (ns = ms) := by
    intro ns
    induction ns with
    | nil =>
      intro ms
      cases ms with
      | nil => simp [pyL, PyData.eqvAll]
      | cons b ms => simp [pyL, PyData.eqvAll]
    | cons a ns ih =>
      intro ms
      cases ms with
      | nil => simp [pyL, PyData.eqvAll]
      | cons b ms =>
        rw [List.map_cons, List.map_cons]
        unfold pyL PyData.eqvAll
        rw [ih ms]
        unfold D.py PyData.eqv
        rw [Bool.eq_iff_iff]
        simp
  intro ns ms
  unfold D.py PyData.eqv
  exact key ns ms
section
variable {P : Program} {w : World} {K : PySem.W.Frag} {mg : Str → Option Value} {base : Heap} {CN CP : Addr} {f : Addr} {fd : FuncData}
theorem ok_law_is_lot (B : Bf mg) (g : mg "_law_is_lot" = some (.ref f)) (F : FnP K "_law_is_lot" s_law_is_lot f fd) : CalG P w K mg base CX0 1 "_law_is_lot" ["_law_knots", "_law_value"] (spLLot CN) := by
  refine cal_mkG g F (fun _ _ _ _ _ _ us hl => match us, hl with | [_, _], _ => rfl) (fn_NG _ _ _ F sc_law_is_lot (fun _ => rfl) fun cdv A outer s H E hr hgd z hz => ?_)
  obtain ⟨k, v⟩ := z
  obtain ⟨h24, hv⟩ := hz
  replace h24 : k ≤ 12 := h24
  replace hv : v.ok := hv
  refine ⟨_, (pss_cons (ps_if (pt_not (pt_val (pe_isi B.b_isinstance (pv 1) (pe_tyn (n := "tuple") B.b_tuple PyProof.Rows.boot_tuple)))) (pss_one (ps_ret pe_bl)) pss_nil) (pss_cons (ps_set (i := 2) sc_law_is_lot.nd rfl (by first | exact Or.inl rfl | exact Or.inr rfl) (pe_lc (own := [("_law_knot", 3)]) (g := (gName 3)) rfl sc_law_is_lot.nd (pi_range1 rfl B.b_range (pa_cons (pv 0) pa_nil)) (blkOk_by (own := [("_law_knot", 3)]) (N := n_law_is_lot) (sc := defScope s_law_is_lot) (by decide +kernel)) (fun _ _ _ _ _ => (pg_name (i := 3) sc_law_is_lot.nd rfl (by first | exact Or.inl rfl | exact Or.inr rfl))) (fun _ _ _ _ _ => pts_nil) (fun _ _ _ _ _ => (pe_reprK (K := K) rfl hgd hr.units B.b_repr (pv 3))))) (pss_one (ps_ret (pe_and (pe_cmpR (op_eqP hr.units) (pe_lc (own := [("_law_one", 4)]) (g := (gName 4)) rfl sc_law_is_lot.nd (pi_tup (pv 1)) (blkOk_by (own := [("_law_one", 4)]) (N := n_law_is_lot) (sc := defScope s_law_is_lot) (by decide +kernel)) (fun _ _ _ _ _ => (pg_name (i := 4) sc_law_is_lot.nd rfl (by first | exact Or.inl rfl | exact Or.inr rfl))) (fun _ _ _ _ _ => (pts_one (pt_cmpR (op_notInK (K := K) rfl) (pe_reprK (K := K) rfl hgd hr.units B.b_repr (pv 4)) (pv 2) (by rfl)))) (fun _ _ _ _ _ => (pv 4))) (pe_lst pa_nil) (nomark _)) (pe_one (pe_cmpR (op_eqP hr.units) (pe_list B.b_list (pv 1)) (pe_sortset rfl B.b_sorted B.b_set (pv 1)) (nomark _)))))))), fun U => ?_⟩
  have hpl : v.pl := vl_pl (ok_vl hv)
  refine sv_guard (b := !v.isT) (eb_not (eb_B (ev_isT (ev_var rfl)))) (fun hb => ?_) fun hb => ?_
  · refine sv_ret1 ev_bl (congrArg D.bl ?_)
    cases v with
    | tup ds => cases hb
    | _ => rfl
  · obtain ⟨ds, rfl⟩ : ∃ ds, v = .tup ds := by
      cases v with
      | tup ds => exact ⟨_, rfl⟩
      | _ => cases hb
    have hlen : ds.length ≤ 12 := (sm_tup hv).1
    have hdo : ∀ d ∈ ds, d.ok := fun d hd => ok_item hv hd
    refine sv_let1 (d := .lst ((upto k).map fun d => .str d.py.shown)) (EvP.to (ev_map (f := fun d => .str d.py.shown) (iv_rng (ea_cons (ev_var rfl) ea_nil) (by omega)) (wp_name (by decide)) (by rw [upto_len]; omega) fun i d p acc hd => ?_) (by rw [Int.toNat_natCast])) ?_
    · have hi := (List.getElem?_eq_some_iff.mp hd).1
      rw [upto_len] at hi
      rw [upto_get hi] at hd
      cases hd
      exact gv_name ⟨rfl, ev_repr (d := .int (i : Int)) (ok_int (by omega)) (ev_var rfl)⟩
    have hflat : ((upto k).map fun d => D.str d.py.shown).all D.flat = true := List.all_eq_true.mpr fun d hd => by
      obtain ⟨x, _, rfl⟩ := List.mem_map.mp hd
      rfl
    have hem : ((ds.filter fun d => !knotIn k d).map id).isEmpty = ds.all (knotIn k) := by
      rw [List.map_id, Bool.eq_iff_iff, List.isEmpty_iff, List.filter_eq_nil_iff, List.all_eq_true]
      exact forall_congr' fun d => forall_congr' fun _ => by simp
    refine sv_ret1 (EvP.to (ev_andV (a := ds.all (knotIn k)) (b := risesD ds) (EvP.to (ev_op1 (ev_filt (f := id) (b := fun d => !knotIn k d) (iv_tup (ds := ds) (ev_var rfl)) (wp_name (by decide)) (by omega) fun i d p acc hd => ?_) (ev_lst1 ea_nil (Nat.zero_le _)) (od_eqP (x := .lst ((ds.filter fun d => !knotIn k d).map id)) (y := .lst []) (by
      rw [List.map_id]
      exact plnL_all fun d hd => vl_pln (ok_vl (hdo d (List.mem_filter.mp hd).1))) rfl (.inr (by decide)))) (congrArg D.bl ((eqv_nilL _).trans hem))) fun hall => ?_) rfl) rfl
    · have hd0 := hdo d (List.mem_of_getElem? hd)
      refine gv_name ⟨rfl, EvB.to (eb_T (ev_op1 (ev_repr hd0 (ev_var rfl)) (ev_var rfl) (od_in (.inr rfl) rfl hflat))) ?_, fun _ => ev_var rfl⟩
      rw [if_pos rfl, names_any (vl_pln (ok_vl hd0)) k, inNames]
    · obtain ⟨ns, rfl⟩ := ints_of hall
      rw [List.length_map] at hlen
      have hp : ∀ l : List Int, (D.lst (l.map D.int)).pln = true := fun l => plnL_all fun d hd => by
        obtain ⟨i, _, rfl⟩ := List.mem_map.mp hd
        rfl
      have hdep : (D.lst (ns.map D.int)).py.depth ≤ 60 := by
        unfold D.py PyData.depth
        have := depL (m := 0) (ds := ns.map D.int) fun d hd => by
          obtain ⟨i, _, rfl⟩ := List.mem_map.mp hd
          unfold D.py PyData.depth
          exact Nat.le_refl _
        omega
      refine ev_op (Pa := Is (.lst (ns.map D.int))) (ev_cb1 (ev_var rfl) (cb_list (.inr rfl))) (ev_sortset (ns := ns) (by omega) (ev_var rfl)) fun x y hx hy => ?_
      obtain ⟨ms, rfl, h1, h2⟩ := hy
      rw [show x = _ from hx]
      have e : PyData.eqv (D.lst (ns.map D.int)).py (D.lst (ms.map D.int)).py = risesD (ns.map D.int) := by
        rw [eqv_ints, Bool.eq_iff_iff, decide_eq_true_eq, rises_iff]
        exact ⟨fun e => by rw [e]; exact h1, fun h => sorted_uniq h h1 fun x => (h2 x).symm⟩
      rw [← e]
      exact od_eqP (hp ns) (hp ms) (.inl hdep)
end
end RN
end

section
set_option Elab.async false
set_option linter.all false
set_option maxRecDepth 100000
set_option maxHeartbeats 4000000
set_option autoImplicit false
/-! RN_L9: the law's judging of how far apart. -/
namespace RN
open PySem PySem.Spec L2
structure FarQ where
  ws : List Wi
  rs : List Rg
  k : Nat
  s : Nat
  g : Nat
  v : D
  x : Option Int
def FarQ.ok (z : FarQ) : Prop := z.rs.length = z.ws.length ∧ z.ws.length ≤ 24 ∧ z.k ≤ 12 ∧ z.v.ok ∧ ∀ y, z.x = some y → y.natAbs ≤ 10 ^ 64
abbrev spLFar (CN : Addr) : Sp := spG (α := FarQ) CN (fun z => [.int (z.k : Int), wsD z.ws, rsD z.rs, .tup [.int (z.s : Int), .int (z.g : Int)], z.v, oD z.x]) FarQ.ok fun z => .bl (isFar z.ws z.rs z.k z.s z.g z.x z.v)
def farShape : D → Bool
  | .tup [.str _, _] => true
  | .tup [.str _, _, _] => true
  | _ => false
def lenBad (n : Nat) : Bool := !([D.int 2, D.int 3].any fun d => d.eqS (.int (n : Int)))
theorem lenBad_eq (n : Nat) : lenBad n = !(decide (n = 2) || decide (n = 3)) := by
  show (!((2 : Int) == (n : Int) || ((3 : Int) == (n : Int) || false))) = _
  rw [Bool.or_false]
  congr 2
  · rw [Bool.eq_iff_iff, beq_iff_eq, decide_eq_true_eq]
    omega
  · rw [Bool.eq_iff_iff, beq_iff_eq, decide_eq_true_eq]
    omega
theorem noShape_far {ws : List Wi} {rs : List Rg} {k s g : Nat} {x : Option Int} {v : D} (h : farShape v = false) : isFar ws rs k s g x v = false := by
  unfold isFar
  split
  · cases h
  · cases h
  · rfl
theorem shape_bad {a : D} {ds : List D} (h : farShape (.tup (a :: ds)) = false) : (lenBad (a :: ds).length || !a.isS) = true := by
  rw [lenBad_eq]
  match ds with
  | [] => rfl
  | [b] => cases a with
    | str w => cases h
    | _ => rfl
  | [b, c] => cases a with
    | str w => cases h
    | _ => rfl
  | b :: c :: d :: r =>
    rw [decide_eq_false (by simp only [List.length_cons]; omega), decide_eq_false (by simp only [List.length_cons]; omega)]
    rfl
section
variable {P : Program} {w : World} {K : PySem.W.Frag} {mg : Str → Option Value} {base : Heap} {CN CP : Addr} {f : Addr} {fd : FuncData}
theorem ok_law_is_far (B : Bf mg) (C_law_is_lot : CalG P w K mg base CX0 1 "_law_is_lot" ["_law_knots", "_law_value"] (spLLot CN)) (C_law_can_rise : Cal P w K mg base CX0 1 "_law_can_rise" ["_law_wires_here", "_law_ranges", "_law_lot"] (spLCan CN))
    (C_law_way_end : CalG P w K mg base CX0 2 "_law_way_end" ["_law_wires_here", "_law_start", "_law_value"] (spLWayEnd CN)) (C_law_length : Cal P w K mg base CX0 1 "_law_length" ["_law_ranges", "_law_steps"] (spLLen CN))
    (g : mg "_law_is_far" = some (.ref f)) (F : FnP K "_law_is_far" s_law_is_far f fd) : CalG P w K mg base CX0 3 "_law_is_far" ["_law_knots", "_law_wires_here", "_law_ranges", "_law_pair", "_law_value", "_law_length_here"] (spLFar CN) := by
  refine cal_mkG g F (fun _ _ _ _ _ _ us hl => match us, hl with | [_, _, _, _, _, _], _ => rfl) (fn_NG _ _ _ F sc_law_is_far (fun _ => rfl) fun cdv A outer s H E hr hgd z hz => ?_)
  obtain ⟨ws, rs, k, s0, g0, v, x⟩ := z
  obtain ⟨hlen, h24, hk, hv, hx⟩ := hz
  replace h24 : ws.length ≤ 24 := h24
  replace hlen : rs.length = ws.length := hlen
  replace hk : k ≤ 12 := hk
  replace hv : v.ok := hv
  replace hx : ∀ y, x = some y → y.natAbs ≤ 10 ^ 64 := hx
  refine ⟨_, (pss_cons (ps_if (PW.pt (pw_or (pt_not (pt_val (pe_isi B.b_isinstance (pv 4) (pe_tyn (n := "tuple") B.b_tuple PyProof.Rows.boot_tuple)))) (pw_or (pt_cmpR op_notIn_seq (pe_len B.b_len (pv 4)) (pe_tup (pa_cons pe_int (pa_cons pe_int pa_nil))) (by rfl)) (pw_or1 (pt_not (pt_val (pe_isi B.b_isinstance (pe_ix ix_tup (pv 4) pe_int (fun _ _ => rfl)) (pe_tyn (n := "str") B.b_str PyProof.Rows.boot_str)))))))) (pss_one (ps_ret pe_bl)) pss_nil) (pss_cons (ps_if (PW.pt (pw_and (pt_cmpR op_eq (pe_ix ix_tup (pv 4) pe_int (fun _ _ => rfl)) pe_str (nomark _)) (pw_and1 (pt_cmpR op_eq (pe_len B.b_len (pv 4)) pe_int (nomark _))))) (pss_cons (ps_set (i := 7) sc_law_is_far.nd rfl (by first | exact Or.inl rfl | exact Or.inr rfl) (pe_and (pe_ownG C_law_is_lot (hr.mono (by decide)) hgd rfl pass0 (pa_cons (pv 0) (pa_cons (pe_ix ix_tup (pv 4) pe_int (fun _ _ => rfl)) pa_nil))) (pe_and (pe_cmpR op_in_seq (pe_ix ix_tup (pv 3) pe_int (fun _ _ => rfl)) (pe_ix ix_tup (pv 4) pe_int (fun _ _ => rfl)) (by rfl)) (pe_one (pe_cmpR op_notIn_seq (pe_ix ix_tup (pv 3) pe_int (fun _ _ => rfl)) (pe_ix ix_tup (pv 4) pe_int (fun _ _ => rfl)) (by rfl)))))) (pss_one (ps_ret (pe_and (pv 7) (pe_one (pe_own C_law_can_rise (hr.mono (by decide)) rfl pass0 (pa_cons (pv 1) (pa_cons (pv 2) (pa_cons (pe_ix ix_tup (pv 4) pe_int (fun _ _ => rfl)) pa_nil))))))))) pss_nil) (pss_cons (ps_if (PW.pt (pw_or (pt_cmpR op_ne (pe_ix ix_tup (pv 4) pe_int (fun _ _ => rfl)) pe_str (nomark _)) (pw_or (pt_cmpR op_ne (pe_len B.b_len (pv 4)) pe_int (nomark _)) (pw_or (pt_cmp (pc_isN (pv 5))) (pw_or1 (pt_cmpR op_ne (pe_reprK (K := K) rfl hgd hr.units B.b_repr (pe_ix ix_tup (pv 4) pe_int (fun _ _ => rfl))) (pe_reprK (K := K) rfl hgd hr.units B.b_repr (pv 5)) (nomark _))))))) (pss_one (ps_ret pe_bl)) pss_nil) (pss_cons (ps_set (i := 6) sc_law_is_far.nd rfl (by first | exact Or.inl rfl | exact Or.inr rfl) (pe_ownG C_law_way_end (hr.mono (by decide)) hgd rfl pass0 (pa_cons (pv 1) (pa_cons (pe_ix ix_tup (pv 3) pe_int (fun _ _ => rfl)) (pa_cons (pe_ix ix_tup (pv 4) pe_int (fun _ _ => rfl)) pa_nil))))) (pss_cons (ps_if (PW.pt (pw_or (pt_cmp (pc_isN (pv 6))) (pw_or (pt_cmpR op_ne (pe_ix ix_list (pv 6) (pe_un un_neg pe_int) (fun _ _ => rfl)) (pe_ix ix_tup (pv 3) pe_int (fun _ _ => rfl)) (nomark _)) (pw_or1 (pt_cmpR op_ne (pe_lenset rfl B.b_len B.b_set (pv 6)) (pe_len B.b_len (pv 6)) (nomark _)))))) (pss_one (ps_ret pe_bl)) pss_nil) (pss_one (ps_ret (pe_cmpR op_eq (pe_own C_law_length (hr.mono (by decide)) rfl pass0 (pa_cons (pv 2) (pa_cons (pe_ix ix_tup (pv 4) pe_int (fun _ _ => rfl)) pa_nil))) (pv 5) (nomark _))))))))), fun U => ?_⟩
  have hpl : v.pl := vl_pl (ok_vl hv)
  cases hsh : farShape v with
  | false =>
    refine sv_guard (b := true) ?_ (fun _ => sv_ret1 ev_bl (congrArg D.bl (noShape_far hsh).symm)) fun h => nomatch h
    cases v with
    | tup ds =>
      cases ds with
      | nil => exact EvB.to (eb_or (a := false) (b := true) (EvB.to (eb_not (eb_B (ev_isT (x := .tup []) (ev_var rfl)))) rfl) fun _ => eb_or (a := true) (b := true) (eb_T (ev_op1 (ev_lenT (ds := []) (ev_var rfl)) (ev_tup1 (ea_cons ev_int (ea_cons ev_int ea_nil)) (Nat.le_of_ble_eq_true rfl)) (od_in (.inl rfl) rfl rfl))) fun h => nomatch h) rfl
      | cons a ds => exact EvB.to (eb_or (a := false) (b := lenBad (a :: ds).length || !a.isS) (EvB.to (eb_not (eb_B (ev_isT (x := .tup (a :: ds)) (ev_var rfl)))) rfl) fun _ => eb_or (eb_T (ev_op1 (ev_lenT (ds := a :: ds) (ev_var rfl)) (ev_tup1 (ea_cons ev_int (ea_cons ev_int ea_nil)) (Nat.le_of_ble_eq_true rfl)) (od_in (.inl rfl) rfl rfl))) fun _ => eb_not (eb_B (ev_isS (ev_ixT (i := 0) (ds := a :: ds) (atI0 a ds) (ev_var rfl) ev_int) (vl_pl (ok_vl (ok_item hv List.mem_cons_self)))))) (shape_bad hsh)
    | net _ _ => cases (ok_vl hv)
    | ah _ _ => cases (ok_vl hv)
    | dt _ _ => cases (ok_vl hv)
    | ty _ => cases (ok_vl hv)
    | cls _ => cases (ok_vl hv)
    | _ => exact EvB.to (eb_or (a := true) (b := true) (EvB.to (eb_not (eb_B (ev_isT (ev_var rfl)))) rfl) fun h => nomatch h) rfl
  | true =>
    have hcase : (∃ w a, v = .tup [.str w, a]) ∨ ∃ w a b, v = .tup [.str w, a, b] := by
      unfold farShape at hsh
      split at hsh
      · exact .inl ⟨_, _, rfl⟩
      · exact .inr ⟨_, _, _, rfl⟩
      · cases hsh
    rcases hcase with ⟨wd, a, rfl⟩ | ⟨wd, a, b, rfl⟩
    · have ha : a.ok := ok_item hv (List.mem_cons_of_mem _ List.mem_cons_self)
      refine sv_guard (b := false) (EvB.to (eb_or (a := false) (b := false) (EvB.to (eb_not (eb_B (ev_isT (x := .tup [.str wd, a]) (ev_var rfl)))) rfl) fun _ => EvB.to (eb_or (a := false) (b := false) (EvB.to (eb_T (ev_op1 (ev_lenT (ds := [.str wd, a]) (ev_var rfl)) (ev_tup1 (ea_cons ev_int (ea_cons ev_int ea_nil)) (Nat.le_of_ble_eq_true rfl)) (od_in (.inl rfl) rfl rfl))) rfl) fun _ => EvB.to (eb_not (eb_B (ev_isS (x := .str wd) (ev_ixT (i := 0) (ds := [.str wd, a]) rfl (ev_var rfl) ev_int) rfl))) rfl) rfl) rfl) (fun h => nomatch h) fun _ => ?_
      refine sv_guard (b := decide (wd = "endless")) (EvB.to (eb_and (b := true) (eb_T (ev_eqS (ev_ixT (i := 0) (ds := [.str wd, a]) rfl (ev_var rfl) ev_int) ev_str)) fun _ => EvB.to (eb_T (ev_eqI (ev_lenT (ds := [.str wd, a]) (ev_var rfl)) ev_int)) rfl) (Bool.and_true _)) (fun hb => ?_) fun hb => ?_
      · rw [decide_eq_true_eq] at hb
        subst hb
        have hres : isFar ws rs k s0 g0 x (.tup [.str "endless", a]) = (isLot k a && (inLot (dItems a) g0 && (!inLot (dItems a) s0 && canRise ws rs (dItems a)))) := by
          show (decide (("endless" : Str) = "endless") && _) = _
          rw [decide_eq_true rfl]
          rfl
        refine sv_let1 (d := .bl (isLot k a && (inLot (dItems a) g0 && !inLot (dItems a) s0))) ?_ ?_
        · refine ev_andV (ev_callG (k, a) (ea_cons (ev_var rfl) (ea_cons (ev_ixT (i := 1) (ds := [.str "endless", a]) rfl (ev_var rfl) ev_int) ea_nil)) ⟨hk, ha⟩) fun hl => ?_
          obtain ⟨l, rfl, hlk⟩ := isLot_is hl
          exact ev_andV (ev_op1 (ev_ixT (i := 1) (ds := [.int (s0 : Int), .int (g0 : Int)]) rfl (ev_var rfl) ev_int) (ev_ixT (i := 1) (ds := [.str "endless", .tup (lotL l)]) rfl (ev_var rfl) ev_int) (od_in (.inl rfl) rfl (lotL_flat l))) fun _ => ev_op1 (ev_ixT (i := 0) (ds := [.int (s0 : Int), .int (g0 : Int)]) rfl (ev_var rfl) ev_int) (ev_ixT (i := 1) (ds := [.str "endless", .tup (lotL l)]) rfl (ev_var rfl) ev_int) (od_in (.inl rfl) rfl (lotL_flat l))
        · refine sv_ret1 (ev_andV (a := isLot k a && (inLot (dItems a) g0 && !inLot (dItems a) s0)) (b := canRise ws rs (dItems a)) (ev_var rfl) fun hl => ?_) (congrArg D.bl ?_)
          · rw [Bool.and_eq_true] at hl
            obtain ⟨l, rfl, hlk⟩ := isLot_is hl.1
            exact ev_callG (ws, rs, l) (ea_cons (ev_var rfl) (ea_cons (ev_var rfl) (ea_cons (ev_ixT (i := 1) (ds := [.str "endless", .tup (lotL l)]) rfl (ev_var rfl) ev_int) ea_nil))) ⟨hlen, h24⟩
          · rw [hres, Bool.and_assoc, Bool.and_assoc]
      · rw [decide_eq_false_iff_not] at hb
        have hres : isFar ws rs k s0 g0 x (.tup [.str wd, a]) = false := by
          show (decide (wd = "endless") && _) = false
          rw [decide_eq_false hb]
          rfl
        refine sv_guard (b := true) ?_ (fun _ => sv_ret1 ev_bl (congrArg D.bl hres.symm)) fun h => nomatch h
        by_cases hm : wd = "most"
        · exact EvB.to (eb_or (a := false) (b := true) (EvB.to (eb_T (ev_neS (ev_ixT (i := 0) (ds := [.str wd, a]) rfl (ev_var rfl) ev_int) ev_str)) (by rw [decide_eq_true hm]; rfl)) fun _ => EvB.to (eb_or (a := true) (b := true) (EvB.to (eb_T (ev_neI (ev_lenT (ds := [.str wd, a]) (ev_var rfl)) ev_int)) rfl) fun h => nomatch h) rfl) rfl
        · exact EvB.to (eb_or (a := true) (b := true) (EvB.to (eb_T (ev_neS (ev_ixT (i := 0) (ds := [.str wd, a]) rfl (ev_var rfl) ev_int) ev_str)) (by rw [decide_eq_false hm]; rfl)) fun h => nomatch h) rfl
    · have ha : a.ok := ok_item hv (List.mem_cons_of_mem _ List.mem_cons_self)
      have hbo : b.ok := ok_item hv (List.mem_cons_of_mem _ (List.mem_cons_of_mem _ List.mem_cons_self))
      refine sv_guard (b := false) (EvB.to (eb_or (a := false) (b := false) (EvB.to (eb_not (eb_B (ev_isT (x := .tup [.str wd, a, b]) (ev_var rfl)))) rfl) fun _ => EvB.to (eb_or (a := false) (b := false) (EvB.to (eb_T (ev_op1 (ev_lenT (ds := [.str wd, a, b]) (ev_var rfl)) (ev_tup1 (ea_cons ev_int (ea_cons ev_int ea_nil)) (Nat.le_of_ble_eq_true rfl)) (od_in (.inl rfl) rfl rfl))) rfl) fun _ => EvB.to (eb_not (eb_B (ev_isS (x := .str wd) (ev_ixT (i := 0) (ds := [.str wd, a, b]) rfl (ev_var rfl) ev_int) rfl))) rfl) rfl) rfl) (fun h => nomatch h) fun _ => ?_
      refine sv_guard (b := false) (EvB.to (eb_and (a := decide (wd = "endless")) (b := false) (eb_T (ev_eqS (ev_ixT (i := 0) (ds := [.str wd, a, b]) rfl (ev_var rfl) ev_int) ev_str)) fun _ => EvB.to (eb_T (ev_eqI (ev_lenT (ds := [.str wd, a, b]) (ev_var rfl)) ev_int)) rfl) (Bool.and_false _)) (fun h => nomatch h) fun _ => ?_
      have bad : ∀ {N : List Sl → List Cell → Prop}, isFar ws rs k s0 g0 x (.tup [.str wd, a, b]) = false → SvP ⟨CN, U, U, [], 0⟩ (tRet (tC (.bl false))) [.d (.int (k : Int)), .d (wsD ws), .d (rsD rs), .d (.tup [.int (s0 : Int), .int (g0 : Int)]), .d (.tup [.str wd, a, b]), .d (oD x), .no, .no] [] N (fun d _ => d = .bl (isFar ws rs k s0 g0 x (.tup [.str wd, a, b]))) := fun h => sv_ret1 ev_bl (congrArg D.bl h.symm)
      have e0 : EvP ⟨CN, U, U, [], 0⟩ (tOp (rIxT K) (tVar 4) (tC (.int 0))) [.d (.int (k : Int)), .d (wsD ws), .d (rsD rs), .d (.tup [.int (s0 : Int), .int (g0 : Int)]), .d (.tup [.str wd, a, b]), .d (oD x), .no, .no] [] (Is (.str wd)) := ev_ixT (i := 0) (ds := [.str wd, a, b]) rfl (ev_var rfl) ev_int
      by_cases hm : wd = "most"
      · subst hm
        cases x with
        | none =>
          refine sv_guard (b := true) (EvB.to (eb_or (a := false) (b := true) (EvB.to (eb_T (ev_neS e0 ev_str)) (by decide)) fun _ => EvB.to (eb_or (a := false) (b := true) (EvB.to (eb_T (ev_neI (ev_lenT (ds := [.str "most", a, b]) (ev_var rfl)) ev_int)) rfl) fun _ => EvB.to (eb_or (a := true) (b := true) (EvB.to (eb_B (ev_isN (x := .non) (ev_var rfl))) rfl) fun h => nomatch h) rfl) rfl) rfl) (fun _ => bad ?_) fun h => nomatch h
          show (decide (("most" : Str) = "most") && (a.whole && false)) = false
          rw [Bool.and_false, Bool.and_false]
        | some y =>
          have hrep : EvB ⟨CN, U, U, [], 0⟩ (tTest (tOp rNe (tCB (rRepr K) (tCons (tOp (rIxT K) (tVar 4) (tC (.int 1))) tNil)) (tCB (rRepr K) (tCons (tVar 5) tNil)))) [.d (.int (k : Int)), .d (wsD ws), .d (rsD rs), .d (.tup [.int (s0 : Int), .int (g0 : Int)]), .d (.tup [.str "most", a, b]), .d (.int y), .no, .no] [] (Is (!a.isI y)) := EvB.to (eb_T (ev_neS (ev_repr ha (ev_ixT (i := 1) (ds := [.str "most", a, b]) rfl (ev_var rfl) ev_int)) (ev_repr (d := .int y) (ok_int (hx y rfl)) (ev_var rfl)))) (by
            rw [← shown_isI (vl_pln (ok_vl ha)) y, show (D.int y).py.shown = Str.ofString (toString y) from by unfold D.py PyData.shown; rfl])
          refine sv_guard (b := !a.isI y) (EvB.to (eb_or (a := false) (b := !a.isI y) (EvB.to (eb_T (ev_neS e0 ev_str)) (by decide)) fun _ => EvB.to (eb_or (a := false) (b := !a.isI y) (EvB.to (eb_T (ev_neI (ev_lenT (ds := [.str "most", a, b]) (ev_var rfl)) ev_int)) rfl) fun _ => EvB.to (eb_or (a := false) (b := !a.isI y) (EvB.to (eb_B (ev_isN (x := .int y) (ev_var rfl))) rfl) fun _ => hrep) rfl) rfl) rfl) (fun hb => bad ?_) fun hb => ?_
          · rw [Bool.not_eq_true'] at hb
            show (decide (("most" : Str) = "most") && (a.whole && (isInt a y && _))) = false
            rw [show isInt a y = a.isI y from by cases a <;> rfl, hb, Bool.false_and, Bool.and_false, Bool.and_false]
          · rw [Bool.not_eq_false'] at hb
            have hay : a = .int y := by
              cases a with
              | int j => exact congrArg D.int (of_decide_eq_true hb)
              | _ => cases hb
            subst hay
            have hres : isFar ws rs k s0 g0 (some y) (.tup [.str "most", .int y, b]) = (areSteps ws.length b && (isWay ws s0 g0 (unSteps b) && decide (lenOf rs (unSteps b) = some y))) := by
              show (decide (("most" : Str) = "most") && (true && (decide (y = y) && _))) = _
              rw [decide_eq_true rfl, decide_eq_true rfl]
              rfl
            refine sv_let1 (d := oL (wayEnd ws s0 b)) (ev_callG (ws, s0, b) (ea_cons (ev_var rfl) (ea_cons (ev_ixT (i := 0) (ds := [.int (s0 : Int), .int (g0 : Int)]) rfl (ev_var rfl) ev_int) (ea_cons (ev_ixT (i := 2) (ds := [.str "most", .int y, b]) rfl (ev_var rfl) ev_int) ea_nil))) ⟨h24, hbo⟩) ?_
            cases hs : areSteps ws.length b with
            | false =>
              have hw : wayEnd ws s0 b = none := by unfold wayEnd; rw [if_neg (by rw [hs]; decide)]
              rw [hw]
              refine sv_guard (b := true) (EvB.to (eb_or (a := true) (b := true) (EvB.to (eb_B (ev_isN (x := .non) (ev_var rfl))) rfl) fun h => nomatch h) rfl) (fun _ => sv_ret1 ev_bl (congrArg D.bl ?_)) fun h => nomatch h
              rw [hres, hs]
              rfl
            | true =>
              cases hk2 : wayK ws (unSteps b) s0 with
              | none =>
                have hw : wayEnd ws s0 b = none := by unfold wayEnd; rw [if_pos hs, hk2]; rfl
                rw [hw]
                refine sv_guard (b := true) (EvB.to (eb_or (a := true) (b := true) (EvB.to (eb_B (ev_isN (x := .non) (ev_var rfl))) rfl) fun h => nomatch h) rfl) (fun _ => sv_ret1 ev_bl (congrArg D.bl ?_)) fun h => nomatch h
                rw [hres, hs]
                unfold isWay
                rw [hk2]
                rfl
              | some ks =>
                have hw : wayEnd ws s0 b = some (s0 :: ks) := by unfold wayEnd; rw [if_pos hs, hk2]; rfl
                rw [hw]
                obtain ⟨st, rfl, hst⟩ := areSteps_is hs
                rw [unSteps_st] at hk2
                have hl12 : st.length ≤ 12 := by
                  have := (sm_tup (ds := st.map stD) hbo).1
                  rw [List.length_map] at this
                  exact this
                have hkl := wayK_len ws _ _ _ hk2
                have hmap : (s0 :: ks).map kD = ((s0 :: ks).map fun (k : Nat) => (k : Int)).map D.int := by
                  rw [List.map_map]
                  rfl
                refine sv_guard (b := !decide ((lastK s0 ks : Int) = (g0 : Int)) || !decide (s0 :: ks).Nodup) (EvB.to (eb_or (a := false) (b := !decide ((lastK s0 ks : Int) = (g0 : Int)) || !decide (s0 :: ks).Nodup) (EvB.to (eb_B (ev_isN (x := .lst ((s0 :: ks).map kD)) (ev_var rfl))) rfl) fun _ => eb_or (eb_T (ev_neI (ev_op1 (ev_var (x := .lst ((s0 :: ks).map kD)) rfl) (ev_un ev_int) (od_ixL (atI_lastK s0 ks))) (ev_ixT (i := 1) (ds := [.int (s0 : Int), .int (g0 : Int)]) rfl (ev_var rfl) ev_int))) fun _ => EvB.to (eb_T (ev_neI (ev_lenset (ns := (s0 :: ks).map fun (k : Nat) => (k : Int)) (by rw [List.length_map, List.length_cons]; omega) (EvP.to (ev_var (x := .lst ((s0 :: ks).map kD)) rfl) (congrArg D.lst hmap))) (ev_lenL (ds := (s0 :: ks).map kD) (ev_var rfl)))) ?_) (Bool.false_or _)) (fun hg => sv_ret1 ev_bl (congrArg D.bl ?_)) fun hg => ?_
                · rw [← nodup_cast, ← dd_iff, List.length_map, List.length_map]
                · rw [hres, hs, unSteps_st]
                  have hiw : isWay ws s0 g0 st = false := by
                    unfold isWay
                    rw [hk2]
                    show (decide (lastK s0 ks = g0) && decide (s0 :: ks).Nodup) = false
                    rw [← Bool.not_and, Bool.not_eq_true', decide_eq_decide.mpr (Int.natCast_inj (m := lastK s0 ks) (n := g0))] at hg
                    exact hg
                  rw [hiw]
                  rfl
                · have hiw : isWay ws s0 g0 st = true := by
                    unfold isWay
                    rw [hk2]
                    show (decide (lastK s0 ks = g0) && decide (s0 :: ks).Nodup) = true
                    rw [← Bool.not_and, Bool.not_eq_false', decide_eq_decide.mpr (Int.natCast_inj (m := lastK s0 ks) (n := g0))] at hg
                    exact hg
                  refine sv_ret1 (ev_eqO (o := lenOf rs st) (i := y) (ev_callG (rs, st) (ea_cons (ev_var rfl) (ea_cons (ev_ixT (i := 2) (ds := [.str "most", .int y, stepsD st]) rfl (ev_var rfl) ev_int) ea_nil)) ⟨by rw [hlen]; exact hst, hl12⟩) (ev_var rfl)) (congrArg D.bl ?_)
                  rw [hres, hs, unSteps_st, hiw]
                  rfl
      · have hres : isFar ws rs k s0 g0 x (.tup [.str wd, a, b]) = false := by
          show (decide (wd = "most") && _) = false
          rw [decide_eq_false hm]
          rfl
        exact sv_guard (b := true) (EvB.to (eb_or (a := true) (b := true) (EvB.to (eb_T (ev_neS e0 ev_str)) (by rw [decide_eq_false hm]; rfl)) fun h => nomatch h) rfl) (fun _ => bad hres) fun h => nomatch h
end
end RN
end

section
set_option Elab.async false
set_option linter.all false
set_option maxRecDepth 100000
set_option maxHeartbeats 4000000
set_option autoImplicit false
/-! RN_L10: the law's judging of loops that bar. -/
namespace RN
open PySem PySem.Spec L2
structure BarQ where
  ws : List Wi
  rs : List Rg
  p : Nat × Int
  st : List (Nat × Int)
def BarQ.start (z : BarQ) : Nat := (endsOf z.ws z.p).1
structure BarQ.ok (z : BarQ) : Prop where
  len : z.rs.length = z.ws.length
  few : z.ws.length ≤ 24
  sm : (stepsD (z.p :: z.st)).ok
  step : ∀ q ∈ z.p :: z.st, StepIn z.ws.length q
  way : ∃ ks, wayK z.ws (z.p :: z.st) z.start = some ks ∧ lastK z.start ks = z.start ∧ ks.Nodup
  wires : ((z.p :: z.st).map (·.1)).Nodup
  neg : ∃ l, lenOf z.rs (z.p :: z.st) = some l ∧ l < 0
abbrev spLBars (CN : Addr) : Sp := spG (α := BarQ) CN (fun z => [wsD z.ws, rsD z.rs, stepsD (z.p :: z.st)]) BarQ.ok fun _ => .bl true
theorem lastK_mem : ∀ (c : Nat) (ks : List Nat), ks ≠ [] → lastK c ks ∈ ks
  | _, [], h => absurd rfl h
  | _, [x], _ => List.mem_cons_self
  | _, x :: y :: ks, _ => List.mem_cons_of_mem _ (lastK_mem x (y :: ks) (fun z => nomatch z))
section
variable {P : Program} {w : World} {K : PySem.W.Frag} {mg : Str → Option Value} {base : Heap} {CN CP : Addr} {f : Addr} {fd : FuncData}
theorem ok_law_bars (B : Bf mg) (C_law_is_step : CalG P w K mg base CX0 1 "_law_is_step" ["_law_wires_here", "_law_value"] (spLStep CN)) (C_law_way_end : CalG P w K mg base CX0 2 "_law_way_end" ["_law_wires_here", "_law_start", "_law_value"] (spLWayEnd CN)) (C_law_length : Cal P w K mg base CX0 1 "_law_length" ["_law_ranges", "_law_steps"] (spLLen CN))
    (g : mg "_law_bars" = some (.ref f)) (F : FnP K "_law_bars" s_law_bars f fd) : CalG P w K mg base CX0 3 "_law_bars" ["_law_wires_here", "_law_ranges", "_law_value"] (spLBars CN) := by
  refine cal_mkG g F (fun _ _ _ _ _ _ us hl => match us, hl with | [_, _, _], _ => rfl) (fn_NG _ _ _ F sc_law_bars (fun _ => rfl) fun cdv A outer s H E hr hgd z hz => ?_)
  obtain ⟨ws, rs, p, st⟩ := z
  obtain ⟨hlen, h24, hsm, hstep, ⟨ks, hway, hlast, hnd⟩, hwi, L, hL, hneg⟩ := hz
  replace hlen : rs.length = ws.length := hlen
  replace h24 : ws.length ≤ 24 := h24
  refine ⟨_, (pss_cons (ps_if (PW.pt (pw_or (pt_not (pt_val (pe_isi B.b_isinstance (pv 2) (pe_tyn (n := "tuple") B.b_tuple PyProof.Rows.boot_tuple)))) (pw_or (pt_cmpR (op_eqP hr.units) (pv 2) (pe_tup pa_nil) (nomark _)) (pw_or1 (pt_not (pt_val (pe_ownG C_law_is_step (hr.mono (by decide)) hgd rfl pass0 (pa_cons (pv 0) (pa_cons (pe_ix ix_tup (pv 2) pe_int (fun _ _ => rfl)) pa_nil))))))))) (pss_one (ps_ret pe_bl)) pss_nil) (pss_cons (ps_set (i := 3) sc_law_bars.nd rfl (by first | exact Or.inl rfl | exact Or.inr rfl) (pe_ifExp (pt_cmpR op_eq (pe_ix ix_tup (pe_ix ix_tup (pv 2) pe_int (fun _ _ => rfl)) pe_int (fun _ _ => rfl)) pe_int (nomark _)) (pe_ix ix_tup (pe_ix ix_tup (pv 0) (pe_ix ix_tup (pe_ix ix_tup (pv 2) pe_int (fun _ _ => rfl)) pe_int (fun _ _ => rfl)) (fun _ _ => rfl)) pe_int (fun _ _ => rfl)) (pe_ix ix_tup (pe_ix ix_tup (pv 0) (pe_ix ix_tup (pe_ix ix_tup (pv 2) pe_int (fun _ _ => rfl)) pe_int (fun _ _ => rfl)) (fun _ _ => rfl)) pe_int (fun _ _ => rfl)))) (pss_cons (ps_set (i := 4) sc_law_bars.nd rfl (by first | exact Or.inl rfl | exact Or.inr rfl) (pe_ownG C_law_way_end (hr.mono (by decide)) hgd rfl pass0 (pa_cons (pv 0) (pa_cons (pv 3) (pa_cons (pv 2) pa_nil))))) (pss_cons (ps_if (PW.pt (pw_or (pt_cmp (pc_isN (pv 4))) (pw_or (pt_cmpR op_ne (pe_ix ix_list (pv 4) (pe_un un_neg pe_int) (fun _ _ => rfl)) (pv 3) (nomark _)) (pw_or1 (pt_cmpR op_ne (pe_lenset rfl B.b_len B.b_set (pv 4)) (pe_len B.b_len (pv 2)) (nomark _)))))) (pss_one (ps_ret pe_bl)) pss_nil) (pss_cons (ps_set (i := 5) sc_law_bars.nd rfl (by first | exact Or.inl rfl | exact Or.inr rfl) (pe_own C_law_length (hr.mono (by decide)) rfl pass0 (pa_cons (pv 1) (pa_cons (pv 2) pa_nil)))) (pss_one (ps_ret (pe_and (pe_cmpR op_eq (pe_lenset rfl B.b_len B.b_set (pe_lc (own := [("_law_wire", 6), ("_law_way", 7)]) (g := (gTup _ 2 (gCons (gName 6) (gCons (gName 7) gNil)))) rfl sc_law_bars.nd (pi_tup (pv 2)) (blkOk_by (own := [("_law_wire", 6), ("_law_way", 7)]) (N := n_law_bars) (sc := defScope s_law_bars) (by decide +kernel)) (fun _ _ _ _ _ => (pg_tup rfl (pgs_cons (pg_name (i := 6) sc_law_bars.nd rfl (by first | exact Or.inl rfl | exact Or.inr rfl)) (pgs_cons (pg_name (i := 7) sc_law_bars.nd rfl (by first | exact Or.inl rfl | exact Or.inr rfl)) pgs_nil)))) (fun _ _ _ _ _ => pts_nil) (fun _ _ _ _ _ => (pv 6)))) (pe_len B.b_len (pv 2)) (nomark _)) (pe_and (pe_cmp (pc_notN (pv 5))) (pe_one (pe_cmpR op_lt (pv 5) pe_int (nomark _)))))))))))), fun U => ?_⟩
  have hp := hstep p List.mem_cons_self
  have hpo : (stD p).ok := ok_item hsm List.mem_cons_self
  have hl12 : (p :: st).length ≤ 12 := by
    have := (sm_tup (ds := (p :: st).map stD) hsm).1
    rw [List.length_map] at this
    exact this
  have hat : atI (ws.map Wi.d) (p.1 : Int) = some (wireAt ws p.1).d := atI_nat (by rw [List.getElem?_map, wireAt_get hp.1]; rfl)
  refine sv_guard (b := false) (EvB.to (eb_or (a := false) (b := false) (EvB.to (eb_not (eb_B (ev_isT (x := stepsD (p :: st)) (ev_var rfl)))) rfl) fun _ => EvB.to (eb_or (a := false) (b := false) (eb_T (EvP.to (ev_op1 (ev_var (x := stepsD (p :: st)) rfl) (ev_tup1 ea_nil) (od_eqP (vl_pln (ok_vl hsm)) rfl (.inr (by decide)))) (congrArg D.bl (eqv_nilT _)))) fun _ => EvB.to (eb_not (eb_B (ev_callG (ws, stD p) (ea_cons (ev_var rfl) (ea_cons (ev_ixT (i := 0) (ds := stD p :: st.map stD) (atI0 _ _) (ev_var rfl) ev_int) ea_nil)) ⟨h24, hpo⟩))) (congrArg not (stepOk_st hp))) rfl) rfl) (fun h => nomatch h) fun _ => ?_
  refine sv_let1 (d := kD (endsOf ws p).1) (ev_if (b := decide (p.2 = 1)) (eb_T (ev_eqI (ev_ixT (i := 1) (ds := [.int (p.1 : Int), .int p.2]) rfl (ev_ixT (i := 0) (ds := stD p :: st.map stD) (atI0 _ _) (ev_var rfl) ev_int) ev_int) ev_int))
    (fun hb => EvP.to (ev_ixT (i := 0) (ds := [.int ((wireAt ws p.1).t : Int), .int ((wireAt ws p.1).h : Int), (wireAt ws p.1).r.d]) rfl (ev_ixT (i := (p.1 : Int)) (ds := ws.map Wi.d) hat (ev_var rfl) (ev_ixT (i := 0) (ds := [.int (p.1 : Int), .int p.2]) rfl (ev_ixT (i := 0) (ds := stD p :: st.map stD) (atI0 _ _) (ev_var rfl) ev_int) ev_int)) ev_int) ?_)
    fun hb => EvP.to (ev_ixT (i := 1) (ds := [.int ((wireAt ws p.1).t : Int), .int ((wireAt ws p.1).h : Int), (wireAt ws p.1).r.d]) rfl (ev_ixT (i := (p.1 : Int)) (ds := ws.map Wi.d) hat (ev_var rfl) (ev_ixT (i := 0) (ds := [.int (p.1 : Int), .int p.2]) rfl (ev_ixT (i := 0) (ds := stD p :: st.map stD) (atI0 _ _) (ev_var rfl) ev_int) ev_int)) ev_int) ?_) ?_
  · rw [decide_eq_true_eq] at hb
    unfold endsOf
    rw [if_pos hb]
    rfl
  · rw [decide_eq_false_iff_not] at hb
    unfold endsOf
    rw [if_neg hb]
    rfl
  generalize hs0 : (endsOf ws p).1 = s0
  replace hway : wayK ws (p :: st) s0 = some ks := by rw [← hs0]; exact hway
  replace hlast : lastK s0 ks = s0 := by rw [← hs0]; exact hlast
  have hkl : ks.length = (p :: st).length := wayK_len ws _ _ _ hway
  have hne : ks ≠ [] := fun e => by rw [e] at hkl; cases hkl
  have hmem : s0 ∈ ks := by
    have := lastK_mem s0 ks hne
    rw [hlast] at this
    exact this
  have hw : wayEnd ws s0 (stepsD (p :: st)) = some (s0 :: ks) := by
    unfold wayEnd
    rw [if_pos (areSteps_st hstep), unSteps_st, hway]
    rfl
  refine sv_let1 (d := .lst ((s0 :: ks).map kD)) (EvP.to (ev_callG (ws, s0, stepsD (p :: st)) (ea_cons (ev_var rfl) (ea_cons (ev_var rfl) (ea_cons (ev_var rfl) ea_nil))) ⟨h24, hsm⟩) (congrArg oL hw)) ?_
  have hmap : (s0 :: ks).map kD = ((s0 :: ks).map fun (k : Nat) => (k : Int)).map D.int := by
    rw [List.map_map]
    rfl
  have hdd : (dd ((s0 :: ks).map fun (k : Nat) => (k : Int))).length = (p :: st).length := by
    rw [← hkl, ← List.length_map (as := ks) (f := fun (k : Nat) => (k : Int))]
    refine nodup_len (dd_nodup _) (of_decide_eq_true ((nodup_cast ks).trans (decide_eq_true hnd))) fun x => ?_
    rw [dd_mem, List.map_cons, List.mem_cons]
    exact ⟨fun h => h.elim (fun e => e ▸ List.mem_map.mpr ⟨s0, hmem, rfl⟩) id, .inr⟩
  refine sv_guard (b := false) (EvB.to (eb_or (a := false) (b := false) (EvB.to (eb_B (ev_isN (x := .lst ((s0 :: ks).map kD)) (ev_var rfl))) rfl) fun _ => EvB.to (eb_or (a := false) (b := false) (EvB.to (eb_T (ev_neI (ev_op1 (ev_var (x := .lst ((s0 :: ks).map kD)) rfl) (ev_un ev_int) (od_ixL (atI_lastK s0 ks))) (ev_var (x := .int (s0 : Int)) rfl))) (by rw [hlast, decide_eq_true rfl]; rfl)) fun _ => EvB.to (eb_T (ev_neI (ev_lenset (ns := (s0 :: ks).map fun (k : Nat) => (k : Int)) (by rw [List.length_map, List.length_cons]; omega) (EvP.to (ev_var (x := .lst ((s0 :: ks).map kD)) rfl) (congrArg D.lst hmap))) (ev_lenT (ds := (p :: st).map stD) (ev_var rfl)))) (by rw [hdd, List.length_map, decide_eq_true rfl]; rfl)) rfl) rfl) (fun h => nomatch h) fun _ => ?_
  refine sv_let1 (d := .int L) (EvP.to (ev_callG (rs, p :: st) (ea_cons (ev_var rfl) (ea_cons (ev_var rfl) ea_nil)) ⟨by rw [hlen]; exact hstep, hl12⟩) (congrArg oD hL)) ?_
  have hu : ∀ p, unStep (stD p) = p := fun p => by
    show (((p.1 : Int)).toNat, p.2) = p
    rw [Int.toNat_natCast]
  have hwn : (((p :: st).map (·.1)).map fun (k : Nat) => (k : Int)).Nodup := of_decide_eq_true ((nodup_cast _).trans (decide_eq_true hwi))
  have hwl : (dd (((p :: st).map (·.1)).map fun (k : Nat) => (k : Int))).length = (p :: st).length := by rw [dd_len_nodup hwn, List.length_map, List.length_map]
  refine sv_ret1 (EvP.to (ev_andV (a := true) (b := true) (EvP.to (ev_eqI (ev_lenset (ns := ((p :: st).map (·.1)).map fun (k : Nat) => (k : Int)) (by rw [List.length_map, List.length_map]; omega) (EvP.to (ev_map (f := fun d => kD (unStep d).1) (iv_tup (ds := (p :: st).map stD) (ev_var rfl)) (wp_tup (wps_cons (wp_name (by decide)) (wps_cons (wp_name (by decide)) wps_nil))) (by rw [List.length_map]; omega) fun i d p' acc hd => ?_) (congrArg D.lst ?_))) (ev_lenT (ds := (p :: st).map stD) (ev_var rfl))) (by rw [hwl, List.length_map, decide_eq_true rfl])) fun _ => EvP.to (ev_andV (a := true) (b := true) (EvP.to (ev_notN (x := .int L) (ev_var rfl)) rfl) fun _ => EvP.to (ev_lt (ev_var rfl) ev_int) (congrArg D.bl (decide_eq_true hneg))) rfl) rfl) rfl
  · obtain ⟨q, hq, rfl⟩ := getMap hd
    rw [hu]
    refine (gv_tup rfl (gs_cons (gv_name (gs_cons (gv_name (gs_nil ?_))))))
    exact ⟨rfl, ev_var rfl⟩
  · rw [List.map_map, List.map_map, List.map_map]
    exact List.map_congr_left fun q _ => congrArg (fun r : Nat × Int => kD r.1) (hu q)
end
end RN
end

section
set_option Elab.async false
set_option linter.all false
set_option maxRecDepth 100000
set_option maxHeartbeats 4000000
set_option autoImplicit false
set_option exponentiation.threshold 2000
/-! RN_L11: values near another one. -/
namespace L2
open PySem PySem.Spec PyProof.Rows
abbrev rStr1 : List V → Hp → VK → Prop := fun xs H Q => ∃ i, xs = [.int i] ∧ i.natAbs.log2 < 1920 ∧ Q (.str (toString i)) H
theorem pe_str1 {X : Cx} {p pos : Pos} {a : Expr} {ta : TE} (hm : X.mg "str" = none) (ha : PE X a ta) (hg : Gl X "str" := by rfl) (h1 : starEach [a] X.env = (false, eval a X.env) :: starEach [] X.env := by rfl) : PE X (.Call (.Name "str" p) [a] [] pos) (tCB rStr1 (tCons ta tNil)) :=
  pe_callTy call_str_int hg hm PyProof.Rows.boot_str (pa_cons ha pa_nil h1) (by decide) (by decide) h1 (by rfl)
end L2
namespace RN
open PySem PySem.Spec L2
/-- what is told: numbers, texts, None, tuples of such -/
def D.tm (n : Nat) : Nat → D → Bool
  | 0, _ => false
  | _ + 1, .non => true
  | _ + 1, .int i => decide (i.natAbs ≤ 10 ^ 61)
  | _ + 1, .str s => smS s
  | k + 1, .tup ds => decide (ds.length ≤ n) && ds.all (D.tm n k)
  | _, _ => false
theorem tm_tup {n k : Nat} {ds : List D} (h : D.tm n (k + 1) (.tup ds) = true) : ds.length ≤ n ∧ ∀ d ∈ ds, D.tm n k d = true := by
  unfold D.tm at h
  rw [Bool.and_eq_true, decide_eq_true_eq, List.all_eq_true] at h
  exact h
theorem tm_tupI {n k : Nat} {ds : List D} (h1 : ds.length ≤ n) (h2 : ∀ d ∈ ds, D.tm n k d = true) : D.tm n (k + 1) (.tup ds) = true := by
  unfold D.tm
  rw [Bool.and_eq_true, decide_eq_true_eq, List.all_eq_true]
  exact ⟨h1, h2⟩
theorem tm_sm {n : Nat} : ∀ {k : Nat} {d : D}, D.tm n k d = true → D.sm (10 ^ 62) n k d = true
  | 0, _, h => by cases h
  | k + 1, .non, _ => rfl
  | k + 1, .int i, h => by
    have h' : decide (i.natAbs ≤ 10 ^ 61) = true := h
    rw [decide_eq_true_eq] at h'
    rw [sm_int]
    exact decide_eq_true (by omega)
  | k + 1, .str s, h => by
    rw [sm_str]
    exact h
  | k + 1, .tup ds, h => by
    obtain ⟨h1, h2⟩ := tm_tup h
    exact sm_tupI h1 fun d hd => tm_sm (h2 d hd)
  | k + 1, .bl _, h => by cases h
  | k + 1, .lst _, h => by cases h
  | k + 1, .net _ _, h => by cases h
  | k + 1, .ah _ _, h => by cases h
  | k + 1, .dt _ _, h => by cases h
  | k + 1, .ty _, h => by cases h
  | k + 1, .cls _, h => by cases h
theorem smS_int {i : Int} (h : i.natAbs ≤ 10 ^ 61) : smS (Str.ofString (toString i)) = true := by
  unfold smS
  rw [Bool.and_eq_true, decide_eq_true_eq, List.all_eq_true]
  refine ⟨?_, fun c hc => ?_⟩
  · have e := PySem.int_text_length_le10 (a := i) (k := 65) (by decide) (by omega)
    rw [PySem.ofString_length]
    omega
  · rw [PyProof.Rows.signs_ofString, List.mem_map] at hc
    obtain ⟨x, _, rfl⟩ := hc
    rw [decide_eq_true_eq]
    exact Nat.lt_of_lt_of_le (UInt32.toNat_lt x.val) (by decide)
theorem cut1_le (ds : List D) : (cutD ds none (some (1 : Int))).length ≤ 1 := by
  unfold cutD
  rw [show (1 : Int) = ((1 : Nat) : Int) from rfl, HT.sIx_nat, HT.sIx_none, List.length_take, List.length_drop]
  omega
section
variable {W : Wd} {ρ : List Sl} {μ : List Cell} {ta : TE}
theorem ev_str1 {i : Int} (hi : i.natAbs ≤ 10 ^ 61) (ha : EvP W ta ρ μ (Is (.int i))) : EvP W (tCB rStr1 (tCons ta tNil)) ρ μ (Is (.str (Str.ofString (toString i)))) :=
  ev_cb1 ha fun H μ s vs r Q q => by
    obtain ⟨v, r1, rfl, rv, rr⟩ := r
    rw [show v = .int i from rv, show r1 = [] from rr]
    refine ⟨i, rfl, ?_, q _ H (.str (Str.ofString (toString i))) (Same.refl H) rfl rfl⟩
    have h2 : i.natAbs < 2 ^ 240 := Nat.lt_of_le_of_lt hi (by decide)
    by_cases h0 : i.natAbs = 0
    · rw [h0]
      decide
    · have := (Nat.log2_lt (n := i.natAbs) (k := 240) h0).mpr h2
      omega
end
/-- a value near: a little larger -/
abbrev spBent (CN : Addr) (n k : Nat) : Sp := spU (α := D) CN (fun v => [v]) (fun v => D.tm n k v = true) fun _ d => D.sm (10 ^ 62) (n + 1) k d = true
theorem eb_andN {W : Wd} {ρ : List Sl} {μ : List Cell} {tt tu : TT} {a : Bool} {PB : Bool → Prop} (h1 : EvB W tt ρ μ (Is a)) (h2 : a = true → EvB W tu ρ μ PB) : EvB W (tAnd tt tu) ρ μ (fun b => b = true → a = true ∧ PB true) := fun σ H s Q q =>
  h1 σ H s _ fun b H1 e1 s1 p1 => by
    have e : b = a := p1
    subst e
    cases b with
    | false => exact q false H1 e1 s1 (fun h => nomatch h)
    | true => exact h2 rfl σ H1 s1 _ fun c H2 e2 s2 p2 => q c H2 (e1.trans e2) s2 fun h => ⟨rfl, h ▸ p2⟩
theorem cutD_mem {ds : List D} {lo hi : Option Int} {d : D} (h : d ∈ cutD ds lo hi) : d ∈ ds := by
  unfold cutD at h
  exact List.mem_of_mem_drop (List.mem_of_mem_take h)
theorem cutD_le (ds : List D) (lo hi : Option Int) : (cutD ds lo hi).length ≤ ds.length := by
  unfold cutD
  rw [List.length_take, List.length_drop]
  omega
theorem cutD_to {ds : List D} {r : Nat} (h : r ≤ ds.length) : (cutD ds none (some (r : Int))).length = r := by
  unfold cutD
  rw [HT.sIx_nat, HT.sIx_none, List.length_take, List.length_drop]
  omega
theorem cutD_from {ds : List D} {r : Nat} (h : r ≤ ds.length) : (cutD ds (some (r : Int)) none).length = ds.length - r := by
  unfold cutD
  rw [HT.sIx_nat, HT.sIx_none, List.length_take, List.length_drop]
  omega
section
variable {P : Program} {w : World} {K : PySem.W.Frag} {mg : Str → Option Value} {base : Heap} {CN CP : Addr} {f : Addr} {fd : FuncData}
theorem ok_law_bent0 {n k l : Nat} (hn : n ≤ 12) (B : Bf mg) (C_law_ball : Cal P w K mg base CX0 1 "_law_ball" ["_law_urn_here", "_law_many"] (spBall CN)) (C_law_taken : Cal P w K mg base CX0 2 "_law_taken" ["_law_urn_here", "_law_items"] (spTaken CN))
    (C_law_bent : Cal P w K mg base CX0 (2 + l) "_law_bent" ["_law_urn_here", "_law_value"] (spBent CN n k))
    (g : mg "_law_bent" = some (.ref f)) (F : FnP K "_law_bent" s_law_bent f fd) : Cal P w K mg base CX0 (2 + l + 1) "_law_bent" ["_law_urn_here", "_law_value"] (spBent CN n (k + 1)) := by
  refine cal_mk g F (fun _ _ _ _ _ _ us hl => match us, hl with | [_, _], _ => rfl) (fn_urn _ _ _ F sc_law_bent (fun _ => rfl) fun cdv A outer s H E hr v hv => ?_)
  refine ⟨_, (pss_cons (ps_if (PW.pt (pw_and (pt_val (pe_isi B.b_isinstance (pv 1) (pe_tyn (n := "tuple") B.b_tuple PyProof.Rows.boot_tuple))) (pw_and (pt_cmpR (op_neP hr.units) (pv 1) (pe_tup pa_nil) (nomark _)) (pw_and1 (pt_cmpR op_gt (pe_own C_law_ball (hr.mono (by omega)) rfl pass0 (pa_cons (pv 0) (pa_cons pe_int pa_nil))) pe_int (nomark _)))))) (pss_cons (ps_set (i := 2) sc_law_bent.nd rfl (by first | exact Or.inl rfl | exact Or.inr rfl) (pe_own C_law_ball (hr.mono (by omega)) rfl pass0 (pa_cons (pv 0) (pa_cons (pe_len B.b_len (pv 1)) pa_nil)))) (pss_one (ps_ret (pe_op op_catA (pe_op op_catA (pe_slice sl_tupA (pv 1) po_none (po_some (pv 2))) (pe_tup (pa_cons (pe_own C_law_bent (hr.mono (by omega)) rfl pass0 (pa_cons (pv 0) (pa_cons (pe_ix ix_tup (pv 1) (pv 2) (fun _ _ => rfl)) pa_nil))) pa_nil))) (pe_slice sl_tupA (pv 1) (po_some (pe_op op_add (pv 2) pe_int)) po_none))))) pss_nil) (pss_cons (ps_if (pt_val (pe_isi B.b_isinstance (pv 1) (pe_tyn (n := "tuple") B.b_tuple PyProof.Rows.boot_tuple))) (pss_one (ps_ret (pe_own C_law_taken (hr.mono (by omega)) rfl pass0 (pa_cons (pv 0) (pa_cons (pe_lst (pa_cons (pe_slice sl_tupA (pv 1) po_none (po_some (pe_un un_neg pe_int))) (pa_cons (pe_op op_catA (pv 1) (pe_slice sl_tupA (pv 1) po_none (po_some pe_int))) (pa_cons (pe_slice sl_tupA (pv 1) (po_some pe_int) po_none) (pa_cons (pe_revT (pv 1)) (pa_cons (pe_list B.b_list (pv 1)) (pa_cons pe_non pa_nil))))))) pa_nil))))) pss_nil) (pss_cons (ps_if (pt_val (pe_isi B.b_isinstance (pv 1) (pe_tyn (n := "str") B.b_str PyProof.Rows.boot_str))) (pss_one (ps_ret (pe_own C_law_taken (hr.mono (by omega)) rfl pass0 (pa_cons (pv 0) (pa_cons (pe_lst (pa_cons pe_str (pa_cons pe_str (pa_cons pe_str (pa_cons pe_str (pa_cons pe_str (pa_cons pe_non (pa_cons pe_int pa_nil)))))))) pa_nil))))) pss_nil) (pss_cons (ps_if (pt_cmp (pc_isN (pv 1))) (pss_one (ps_ret (pe_own C_law_taken (hr.mono (by omega)) rfl pass0 (pa_cons (pv 0) (pa_cons (pe_lst (pa_cons pe_int (pa_cons (pe_tup pa_nil) (pa_cons pe_str pa_nil)))) pa_nil))))) pss_nil) (pss_one (ps_ret (pe_own C_law_taken (hr.mono (by omega)) rfl pass0 (pa_cons (pv 0) (pa_cons (pe_lst (pa_cons (pe_op op_add (pv 1) pe_int) (pa_cons (pe_op op_sub (pv 1) pe_int) (pa_cons (pe_op op_sub pe_int (pv 1)) (pa_cons pe_non (pa_cons pe_bl (pa_cons (pe_tup (pa_cons (pv 1) pa_nil)) (pa_cons (pe_op op_add (pe_op op_powN pe_int pe_int) (pv 1)) (pa_cons (pe_str1 B.b_str (pv 1)) pa_nil))))))))) pa_nil))))))))), fun U u => ?_⟩
  replace hv : D.tm n (k + 1) v = true := hv
  have hpl : v.pl := by cases v <;> first | rfl | cases hv
  have hvl : v.vl = true := sm_vl (by omega) (tm_sm hv)
  refine sv_seq (N1 := fun ρ' μ' => (∃ x, ρ' = [.c 0, .d v, x]) ∧ μ' = [.urn]) (sv_ifN (PB := fun b => b = true → ∃ d ds, v = .tup (d :: ds)) ?_ (fun hb => ?_) fun _ => sv_next ⟨⟨_, rfl⟩, rfl⟩) fun ρ' μ' h => ?_
  · cases v with
    | tup ds =>
      refine EvB.imp (eb_andN (a := true) (PB := fun b => b = true → ds.isEmpty = false ∧ True) (eb_B (ev_isT (x := .tup ds) (ev_var rfl))) fun _ => EvB.imp (eb_andN (a := !ds.isEmpty) (PB := fun _ => True) (eb_T (EvP.to (ev_op1 (ev_var (x := .tup ds) rfl) (ev_tup1 ea_nil) (od_neP (vl_pln hvl) rfl (.inr (by decide)))) (congrArg (fun b => D.bl (!b)) (eqv_nilT ds)))) fun _ => eb_TN (EvP.imp (en_cmp (ev_callU (j := 0) (7 : Int) rfl rfl (ea_cons ev_int ea_nil) (mOk_of (by decide) (by decide)) fun d h => h) (en_is ev_int)) fun d hd => by
        obtain ⟨x, y, _, _, rfl⟩ := hd
        exact ⟨_, rfl, trivial⟩)) fun b h hb => ⟨by have := (h hb).1; rw [Bool.not_eq_true'] at this; exact this, trivial⟩) fun b h hb => ?_
      have := ((h hb).2 rfl).1
      cases ds with
      | nil => cases this
      | cons d ds => exact ⟨d, ds, rfl⟩
    | non => exact EvB.imp (eb_andN (a := false) (PB := fun _ => True) (eb_B (ev_isT (x := .non) (ev_var rfl))) fun h => nomatch h) fun b h hb => nomatch (h hb).1
    | int i => exact EvB.imp (eb_andN (a := false) (PB := fun _ => True) (eb_B (ev_isT (x := .int i) (ev_var rfl))) fun h => nomatch h) fun b h hb => nomatch (h hb).1
    | str z => exact EvB.imp (eb_andN (a := false) (PB := fun _ => True) (eb_B (ev_isT (x := .str z) (ev_var rfl))) fun h => nomatch h) fun b h hb => nomatch (h hb).1
    | _ => cases hv
  · obtain ⟨d0, ds0, rfl⟩ := hb rfl
    obtain ⟨hl, hds⟩ := tm_tup hv
    have hl0 : (d0 :: ds0).length = ds0.length + 1 := rfl
    refine sv_let (P := fun d => ∃ r : Int, d = .int r ∧ 0 ≤ r ∧ r < ((d0 :: ds0).length : Int)) (ev_callU (j := 0) (((d0 :: ds0).length : Nat) : Int) rfl rfl (ea_cons (ev_lenT (ds := d0 :: ds0) (ev_var rfl)) ea_nil) (mOk_of (by omega) (by omega)) fun d h => h) fun d hd => ?_
    obtain ⟨z, rfl, hz0, hz1⟩ := hd
    obtain ⟨r, rfl⟩ : ∃ r : Nat, z = (r : Int) := ⟨z.toNat, by omega⟩
    have hr' : r < (d0 :: ds0).length := by omega
    have hat : atI (d0 :: ds0) (r : Int) = some (d0 :: ds0)[r] := atI_nat (List.getElem?_eq_getElem hr')
    have hle := cutD_to (ds := d0 :: ds0) (r := r) (by omega)
    have hfr := cutD_from (ds := d0 :: ds0) (r := r + 1) (by omega)
    have e1 : ∀ {x : List D}, EvO ⟨CN, U, U, [u], 1⟩ (tPart (tVar 2)) [.c 0, .d (.tup x), .d (.int (r : Int))] [.urn] (some (r : Int)) := eo_some (ev_var rfl)
    refine sv_ret (P := fun d => D.sm (10 ^ 62) (n + 1) (k + 1) d = true) (ev_op (Pa := fun x => ∃ e, x = .tup (cutD (d0 :: ds0) none (some (r : Int)) ++ [e]) ∧ D.sm (10 ^ 62) (n + 1) k e = true) (Pb := Is (.tup (cutD (d0 :: ds0) (some ((r : Int) + 1)) none)))
      (ev_op (Pa := Is (.tup (cutD (d0 :: ds0) none (some (r : Int))))) (Pb := fun x => ∃ e, x = .tup [e] ∧ D.sm (10 ^ 62) (n + 1) k e = true) (ev_slT (ds := d0 :: ds0) (ev_var rfl) eo_none (eo_some (ev_var rfl)))
        (EvP.imp (ev_tup (PA := fun es => ∃ d r, es = d :: r ∧ D.sm (10 ^ 62) (n + 1) k d = true ∧ Is [] r) (ea_consN (ev_callU (j := 0) (d0 :: ds0)[r] rfl rfl (ea_cons (ev_ixT (ds := d0 :: ds0) hat (ev_var rfl) (ev_var rfl)) ea_nil) (hds _ (List.getElem_mem hr')) fun d h => h) ea_nil) fun es he => by
          obtain ⟨d, r', rfl, _, e⟩ := he
          rw [show r' = [] from e]
          exact Nat.le_of_ble_eq_true rfl) fun d hd => by
          obtain ⟨es, rfl, d, r', rfl, h, e⟩ := hd
          rw [show r' = [] from e]
          exact ⟨d, rfl, h⟩) fun x y hx hy => ?_)
      (ev_slT (ds := d0 :: ds0) (ev_var rfl) (eo_some (ev_add (ev_var rfl) ev_int)) eo_none) fun x y hx hy => ?_) fun d hd => ⟨rfl, hd⟩
    · obtain ⟨e, rfl, he⟩ := hy
      rw [show x = _ from hx]
      exact fun H μ s vx vy r1 r2 Q q => od_catT (by rw [hle]; show r + 1 ≤ 1000; omega) H μ s vx vy r1 r2 Q fun v H' d a b c => q v H' d a b ⟨e, c, he⟩
    · obtain ⟨e, rfl, he⟩ := hx
      rw [show y = _ from hy]
      refine fun H μ s vx vy r1 r2 Q q => od_catT ?_ H μ s vx vy r1 r2 Q fun v H' d a b c => q v H' d a b ?_
      · rw [List.length_append, hle, show ((r : Int) + 1) = ((r + 1 : Nat) : Int) by omega, hfr]
        show r + 1 + _ ≤ 1000
        omega
      · rw [show d = _ from c]
        refine sm_tupI ?_ fun d hd => ?_
        · rw [List.length_append, List.length_append, hle, show ((r : Int) + 1) = ((r + 1 : Nat) : Int) by omega, hfr]
          show r + 1 + _ ≤ n + 1
          omega
        · rcases List.mem_append.mp hd with hd | hd
          · rcases List.mem_append.mp hd with hd | hd
            · exact sm_mono (Nat.le_refl _) (Nat.le_succ _) (Nat.le_refl _) (tm_sm (hds d (cutD_mem hd)))
            · rw [List.mem_singleton.mp hd]
              exact he
          · exact sm_mono (Nat.le_refl _) (Nat.le_succ _) (Nat.le_refl _) (tm_sm (hds d (cutD_mem hd)))
  · obtain ⟨⟨x, rfl⟩, rfl⟩ := h
    have hN : D.sm (10 ^ 62) (n + 1) (k + 1) .non = true := rfl
    cases v with
    | tup ds =>
      obtain ⟨hl, hds⟩ := tm_tup hv
      have sub : ∀ {es : List D}, (∀ d ∈ es, d ∈ ds) → es.length ≤ n + 1 → D.sm (10 ^ 62) (n + 1) (k + 1) (.tup es) = true := fun h1 h2 => sm_tupI h2 fun d hd => sm_mono (Nat.le_refl _) (Nat.le_succ _) (Nat.le_refl _) (tm_sm (hds d (h1 d hd)))
      have cut : ∀ {lo hi : Option Int}, (cutD ds lo hi).length ≤ n + 1 := fun {lo hi} => Nat.le_trans (cutD_le ds lo hi) (Nat.le_succ_of_le hl)
      refine sv_guard (b := true) (eb_B (ev_isT (x := .tup ds) (ev_var rfl))) (fun _ => ?_) fun h => nomatch h
      refine sv_ret (ev_takeN (j := 0) (n := 6) (P := fun d => D.sm (10 ^ 62) (n + 1) (k + 1) d = true) rfl rfl (by decide) (ea_allN ?_ (ea_allN ?_ (ea_allN ?_ (ea_allN ?_ (ea_allN ?_ (ea_allN ?_ ea_all0))))))) fun d hd => ⟨rfl, hd⟩
      · exact EvP.imp (ev_slT (ds := ds) (ev_var rfl) eo_none (eo_some (ev_un ev_int))) fun d e => by rw [show d = _ from e]; exact sub (fun _ h => cutD_mem h) cut
      · refine EvP.imp (ev_op1 (ev_var (x := .tup ds) rfl) (ev_slT (ds := ds) (ev_var rfl) eo_none (eo_some ev_int)) (od_catT ?_)) fun d e => ?_
        · have := cut1_le ds
          omega
        · rw [show d = _ from e]
          refine sub (fun d h => (List.mem_append.mp h).elim id fun h => cutD_mem h) ?_
          have := cut1_le ds
          rw [List.length_append]
          omega
      · exact EvP.imp (ev_slT (ds := ds) (ev_var rfl) (eo_some ev_int) eo_none) fun d e => by rw [show d = _ from e]; exact sub (fun _ h => cutD_mem h) cut
      · exact EvP.imp (ev_revT (ds := ds) (ev_var rfl)) fun d e => by rw [show d = _ from e]; exact sub (fun _ h => List.mem_reverse.mp h) (by rw [List.length_reverse]; omega)
      · refine EvP.imp (ev_cb1 (ev_var (x := .tup ds) rfl) (cb_list (.inr rfl))) fun d e => ?_
        rw [show d = _ from e]
        exact sm_lstI (by omega) fun d hd => sm_mono (Nat.le_refl _) (Nat.le_succ _) (Nat.le_refl _) (tm_sm (hds d hd))
      · exact EvP.imp ev_non fun d e => by rw [show d = _ from e]; exact hN
    | str z =>
      refine sv_guard (b := false) (eb_B (ev_isT (x := .str z) (ev_var rfl))) (fun h => nomatch h) fun _ => ?_
      refine sv_guard (b := true) (eb_B (ev_isi (x := .str z) (n := "str") (m := "str") (ev_var rfl) ev_ty rfl (by decide))) (fun _ => ?_) fun h => nomatch h
      refine sv_ret (ev_takeN (j := 0) (n := 7) (P := fun d => D.sm (10 ^ 62) (n + 1) (k + 1) d = true) rfl rfl (by decide) (ea_allN ?_ (ea_allN ?_ (ea_allN ?_ (ea_allN ?_ (ea_allN ?_ (ea_allN ?_ (ea_allN ?_ ea_all0)))))))) fun d hd => ⟨rfl, hd⟩
      all_goals first
        | exact EvP.imp ev_str fun d e => by rw [show d = _ from e, sm_str]; decide
        | exact EvP.imp ev_non fun d e => by rw [show d = _ from e]; exact hN
        | exact EvP.imp ev_int fun d e => by rw [show d = _ from e, sm_int]; decide
    | non =>
      refine sv_guard (b := false) (eb_B (ev_isT (x := .non) (ev_var rfl))) (fun h => nomatch h) fun _ => ?_
      refine sv_guard (b := false) (eb_B (ev_isi (x := .non) (n := "NoneType") (m := "str") (ev_var rfl) ev_ty rfl (by decide))) (fun h => nomatch h) fun _ => ?_
      refine sv_guard (b := true) (eb_T (ev_isN (x := .non) (ev_var rfl))) (fun _ => ?_) fun h => nomatch h
      refine sv_ret (ev_takeN (j := 0) (n := 3) (P := fun d => D.sm (10 ^ 62) (n + 1) (k + 1) d = true) rfl rfl (by decide) (ea_allN ?_ (ea_allN ?_ (ea_allN ?_ ea_all0)))) fun d hd => ⟨rfl, hd⟩
      · exact EvP.imp ev_int fun d e => by rw [show d = _ from e, sm_int]; decide
      · exact EvP.imp (ev_tup1 ea_nil) fun d e => by rw [show d = _ from e]; exact sm_tupI (Nat.zero_le _) fun _ h => nomatch h
      · exact EvP.imp ev_str fun d e => by rw [show d = _ from e, sm_str]; decide
    | int i =>
      have hi : i.natAbs ≤ 10 ^ 61 := of_decide_eq_true hv
      have big : ∀ {j : Int}, j.natAbs ≤ 10 ^ 62 → D.sm (10 ^ 62) (n + 1) (k + 1) (.int j) = true := fun h => by rw [sm_int]; exact decide_eq_true h
      refine sv_guard (b := false) (eb_B (ev_isT (x := .int i) (ev_var rfl))) (fun h => nomatch h) fun _ => ?_
      refine sv_guard (b := false) (eb_B (ev_isi (x := .int i) (n := "int") (m := "str") (ev_var rfl) ev_ty rfl (by decide))) (fun h => nomatch h) fun _ => ?_
      refine sv_guard (b := false) (eb_T (ev_isN (x := .int i) (ev_var rfl))) (fun h => nomatch h) fun _ => ?_
      refine sv_ret (ev_takeN (j := 0) (n := 8) (P := fun d => D.sm (10 ^ 62) (n + 1) (k + 1) d = true) rfl rfl (by decide) (ea_allN ?_ (ea_allN ?_ (ea_allN ?_ (ea_allN ?_ (ea_allN ?_ (ea_allN ?_ (ea_allN ?_ (ea_allN ?_ ea_all0))))))))) fun d hd => ⟨rfl, hd⟩
      · exact EvP.imp (ev_add (ev_var (x := .int i) rfl) ev_int) fun d e => by rw [show d = _ from e]; exact big (by omega)
      · exact EvP.imp (ev_sub (ev_var (x := .int i) rfl) ev_int) fun d e => by rw [show d = _ from e]; exact big (by omega)
      · exact EvP.imp (ev_sub ev_int (ev_var (x := .int i) rfl)) fun d e => by rw [show d = _ from e]; exact big (by omega)
      · exact EvP.imp ev_non fun d e => by rw [show d = _ from e]; exact hN
      · exact EvP.imp ev_bl fun d e => by rw [show d = _ from e]; rfl
      · exact EvP.imp (ev_tup1 (ea_cons (ev_var (x := .int i) rfl) ea_nil) (Nat.le_of_ble_eq_true rfl)) fun d e => by
          rw [show d = _ from e]
          exact sm_tupI (by show 1 ≤ n + 1; omega) fun d h => by rw [List.mem_singleton.mp h, sm_int]; exact decide_eq_true (by omega)
      · exact EvP.imp (ev_add (i := 10 ^ 61) (ev_op1 (z := .int (10 ^ 61)) ev_int ev_int (od_I (C := CPowW) (g := fun i j => .int (i ^ j.toNat)) (i := 10) (j := 61) ⟨by decide, by decide⟩ fun _ => rfl)) (ev_var (x := .int i) rfl)) fun d e => by rw [show d = _ from e]; exact big (by omega)
      · exact EvP.imp (ev_str1 hi (ev_var rfl)) fun d e => by rw [show d = _ from e, sm_str]; exact smS_int hi
    | _ => cases hv
/-- of nothing -/
theorem ok_law_bentN {n : Nat} (g : mg "_law_bent" = some (.ref f)) (F : FnP K "_law_bent" s_law_bent f fd) : Cal P w K mg base CX0 2 "_law_bent" ["_law_urn_here", "_law_value"] (spBent CN n 0) :=
  cal_mk g F (fun _ _ _ _ _ _ us hl => match us, hl with | [_, _], _ => rfl) (fn_urn _ _ _ F sc_law_bent (fun _ => rfl) fun cdv A outer s H E hr v hv => nomatch hv)
theorem ok_law_bent {n : Nat} (hn : n ≤ 12) (B : Bf mg) (C_law_ball : Cal P w K mg base CX0 1 "_law_ball" ["_law_urn_here", "_law_many"] (spBall CN)) (C_law_taken : Cal P w K mg base CX0 2 "_law_taken" ["_law_urn_here", "_law_items"] (spTaken CN))
    (g : mg "_law_bent" = some (.ref f)) (F : FnP K "_law_bent" s_law_bent f fd) : Cal P w K mg base CX0 6 "_law_bent" ["_law_urn_here", "_law_value"] (spBent CN n 4) :=
  ok_law_bent0 (l := 3) hn B C_law_ball C_law_taken (ok_law_bent0 (l := 2) hn B C_law_ball C_law_taken (ok_law_bent0 (l := 1) hn B C_law_ball C_law_taken (ok_law_bent0 (l := 0) hn B C_law_ball C_law_taken (ok_law_bentN g F) g F) g F) g F) g F
end
end RN
end

section
set_option Elab.async false
set_option linter.all false
set_option maxRecDepth 100000
set_option maxHeartbeats 4000000
set_option autoImplicit false
/-! RN_P1: plain: a ring bars; what is told is small, and is right. -/
namespace RN
open PySem PySem.Spec L2
theorem lk_lo {ws : List Wi} {rs : List Rg} {j : Nat} {x : Wi} {r : Rg} {lo : Int} (hw : ws[j]? = some x) (hr : rs[j]? = some r) (h : r.1 = some lo) : (⟨x.t, x.h, -lo, j, 1⟩ : Lk) ∈ linksOf ws rs := by
  unfold linksOf lkUp
  refine List.mem_flatMap.mpr ⟨j, List.mem_range.mpr (List.getElem?_eq_some_iff.mp hw).1, ?_⟩
  unfold lkAt
  rw [hw, hr]
  show _ ∈ loL x j r.1 ++ hiL x j r.2
  rw [h]
  exact List.mem_append_left _ List.mem_cons_self
theorem lk_hi {ws : List Wi} {rs : List Rg} {j : Nat} {x : Wi} {r : Rg} {hi : Int} (hw : ws[j]? = some x) (hr : rs[j]? = some r) (h : r.2 = some hi) : (⟨x.h, x.t, hi, j, -1⟩ : Lk) ∈ linksOf ws rs := by
  unfold linksOf lkUp
  refine List.mem_flatMap.mpr ⟨j, List.mem_range.mpr (List.getElem?_eq_some_iff.mp hw).1, ?_⟩
  unfold lkAt
  rw [hw, hr]
  show _ ∈ loL x j r.1 ++ hiL x j r.2
  rw [h]
  exact List.mem_append_right _ List.mem_cons_self
theorem wireAt_of {ws : List Wi} {j : Nat} {x : Wi} (h : ws[j]? = some x) : wireAt ws j = x := by
  unfold wireAt
  rw [List.getD_eq_getElem?_getD, h]
  rfl
theorem rangeAt_of {rs : List Rg} {j : Nat} {r : Rg} (h : rs[j]? = some r) : rangeAt rs j = r := by
  unfold rangeAt
  rw [List.getD_eq_getElem?_getD, h]
  rfl
def lkSt (e : Lk) : Nat × Int := (e.w, e.y)
theorem link_step {ws : List Wi} {rs : List Rg} {e : Lk} (h : e ∈ linksOf ws rs) : StepIn ws.length (lkSt e) ∧ endsOf ws (lkSt e) = (e.a, e.b) ∧ stepLen rs (lkSt e) = some e.l := by
  obtain ⟨j, x, r, hj, hw, hr, h⟩ := lkUp_mem h
  rcases h with ⟨lo, hl, rfl⟩ | ⟨hi, hh, rfl⟩
  · refine ⟨⟨hj, .inl rfl⟩, ?_, ?_⟩
    · unfold endsOf lkSt
      rw [if_pos rfl, wireAt_of hw]
    · unfold stepLen lkSt
      rw [if_pos rfl, rangeAt_of hr, hl]
      rfl
  · refine ⟨⟨hj, .inr rfl⟩, ?_, ?_⟩
    · unfold endsOf lkSt
      rw [if_neg (show ¬ ((-1 : Int) = 1) by decide), wireAt_of hw]
    · unfold stepLen lkSt
      rw [if_neg (show ¬ ((-1 : Int) = 1) by decide), rangeAt_of hr, hh]
theorem steps_succ (F : Nat → Lk) (m : Nat) : stepsOf F (m + 1) = lkSt (F 0) :: stepsOf (fun j => F (j + 1)) m := by
  unfold stepsOf
  rw [List.range_succ_eq_map, List.map_cons, List.map_map]
  rfl
theorem chainK {ws : List Wi} {rs : List Rg} : ∀ (m : Nat) (F : Nat → Lk) (s : Nat), (∀ j, j < m → F j ∈ linksOf ws rs) → (∀ j, j + 1 < m → (F j).b = (F (j + 1)).a) → (1 ≤ m → (F 0).a = s) → wayK ws (stepsOf F m) s = some ((List.range m).map fun j => (F j).b)
  | 0, F, s, _, _, _ => rfl
  | m + 1, F, s, hm, hl, h0 => by
    have ih := chainK m (fun j => F (j + 1)) (F 0).b (fun j hj => hm (j + 1) (by omega)) (fun j hj => hl (j + 1) (by omega)) fun h => (hl 0 (by omega)).symm
    obtain ⟨_, he, _⟩ := link_step (hm 0 (by omega))
    rw [steps_succ]
    unfold wayK
    rw [he, if_pos (h0 (by omega)), ih, Option.map_some, List.range_succ_eq_map, List.map_cons, List.map_map]
    rfl
theorem chainL {ws : List Wi} {rs : List Rg} : ∀ (m : Nat) (F : Nat → Lk), (∀ j, j < m → F j ∈ linksOf ws rs) → lenOf rs (stepsOf F m) = some (psum (fun j => (F j).l) m)
  | 0, F, _ => rfl
  | m + 1, F, hm => by
    have ih := chainL m (fun j => F (j + 1)) fun j hj => hm (j + 1) (by omega)
    obtain ⟨_, _, hl⟩ := link_step (hm 0 (by omega))
    rw [steps_succ, psum_shift]
    unfold lenOf
    rw [hl, ih]
theorem lastK_range (s m : Nat) (g : Nat → Nat) : lastK s ((List.range (m + 1)).map g) = g m := by
  rw [List.range_succ, List.map_append]
  exact lastK_snoc s _ _
/-- at most k of them -/
theorem few_of {k : Nat} {g : Nat → Nat} {m : Nat} (hk : ∀ j, j < m → g j < k) (hi : ∀ i j, i < m → j < m → g i = g j → i = j) : m ≤ k := by
  by_cases h : m ≤ k
  · exact h
  · obtain ⟨i, j, h1, h2, h3⟩ := pigeon k g fun i h2 => hk i (by omega)
    have := hi i j (by omega) (by omega) h3
    omega
theorem nodup_rg {α : Type} {m : Nat} {g : Nat → α} (h : ∀ i j, i < j → j < m → g i ≠ g j) : ((List.range m).map g).Nodup :=
  List.pairwise_map.mpr (List.Pairwise.imp_of_mem (fun {a b} _ hb hab => h a b hab (List.mem_range.mp hb)) List.pairwise_lt_range)
theorem steps_fst (F : Nat → Lk) (m : Nat) : (stepsOf F m).map (·.1) = (List.range m).map fun j => (F j).w := by
  unfold stepsOf
  rw [List.map_map]
  rfl
theorem steps_mem {F : Nat → Lk} {m : Nat} {p : Nat × Int} (h : p ∈ stepsOf F m) : ∃ j, j < m ∧ p = lkSt (F j) := by
  unfold stepsOf at h
  obtain ⟨j, hj, rfl⟩ := List.mem_map.mp h
  exact ⟨j, List.mem_range.mp hj, rfl⟩
theorem steps_len (F : Nat → Lk) (m : Nat) : (stepsOf F m).length = m := by
  unfold stepsOf
  rw [List.length_map, List.length_range]
/-- steps are small -/
theorem steps_tm {k : Nat} {st : List (Nat × Int)} (h1 : st.length ≤ 6) (h2 : ∀ p ∈ st, StepIn k p) (hk : k ≤ 24) : D.tm 6 3 (stepsD st) = true := by
  refine tm_tupI (by rw [List.length_map]; exact h1) fun d hd => ?_
  obtain ⟨p, hp, rfl⟩ := List.mem_map.mp hd
  obtain ⟨a, b⟩ := h2 p hp
  refine tm_tupI (Nat.le_of_ble_eq_true rfl) fun d hd => ?_
  rcases List.mem_cons.mp hd with rfl | hd
  · exact decide_eq_true (by omega)
  · rw [List.mem_singleton.mp hd]
    exact decide_eq_true (by rcases b with b | b <;> rw [b] <;> decide)
/-- a wire both ways, none shorter than the other -/
theorem both_ways {ws : List Wi} {rs : List Rg} (hr : ∀ r ∈ rs, rgOk r) {e e' : Lk} (h : e ∈ linksOf ws rs) (h' : e' ∈ linksOf ws rs) (hw : e.w = e'.w) : e.a = e'.a ∨ (e.a = e'.b ∧ e.b = e'.a ∧ 0 ≤ e.l + e'.l) := by
  obtain ⟨j, x, r, hj, hx, hrj, h⟩ := lkUp_mem h
  obtain ⟨j', x', r', hj', hx', hrj', h'⟩ := lkUp_mem h'
  have hmem : r ∈ rs := List.mem_of_getElem? hrj
  rcases h with ⟨lo, hl, rfl⟩ | ⟨hi, hh, rfl⟩ <;> rcases h' with ⟨lo', hl', rfl⟩ | ⟨hi', hh', rfl⟩
  all_goals
    have e1 : j = j' := hw
    subst e1
    rw [hx] at hx'
    rw [hrj] at hrj'
    cases hx'
    cases hrj'
  · exact .inl rfl
  · refine .inr ⟨rfl, rfl, ?_⟩
    have := (hr r hmem).2.2 lo hi' hl hh'
    show 0 ≤ -lo + hi'
    omega
  · refine .inr ⟨rfl, rfl, ?_⟩
    have := (hr r hmem).2.2 lo' hi hl' hh
    show 0 ≤ hi + -lo'
    omega
  · exact .inl rfl
/-- a ring of the net bars heights -/
theorem ring_bar {n : NetD} {rs : List Rg} (hn : n.ok) (hk : n.k ≤ 6) (hlen : rs.length = n.ws.length) (hr : ∀ r ∈ rs, rgOk r) {F : Nat → Lk} {m : Nat} (R : Ring (Lks n rs) F m) : ∃ p st, stepsOf F m = p :: st ∧ BarQ.ok ⟨n.ws, rs, p, st⟩ := by
  have hls := lks_ok (rs := rs) hn
  have h24 : n.ws.length ≤ 24 := hn.2.2.1
  have hm := R.m1
  obtain ⟨m', rfl⟩ : ∃ m', m = m' + 1 := ⟨m - 1, by omega⟩
  have hfew : m' + 1 ≤ n.k := few_of (g := fun j => (F j).a) (fun j hj => (hls _ (R.mem j hj)).1) R.inj
  refine ⟨_, _, steps_succ F m', ?_⟩
  have hall : ∀ q ∈ lkSt (F 0) :: stepsOf (fun j => F (j + 1)) m', StepIn n.ws.length q := fun q hq => by
    rw [← steps_succ] at hq
    obtain ⟨j, hj, rfl⟩ := steps_mem hq
    exact (link_step (R.mem j hj)).1
  have hs0 : (endsOf n.ws (lkSt (F 0))).1 = (F 0).a := by rw [(link_step (R.mem 0 (by omega))).2.1]
  have hb : ∀ i j, i < j → j < m' + 1 → (F i).b ≠ (F j).b := fun i j hij hj e => by
    have e1 := R.link i (by omega)
    by_cases hj1 : j + 1 < m' + 1
    · have e2 := R.link j hj1
      have := R.inj (i + 1) (j + 1) (by omega) hj1 (by rw [← e1, ← e2, e])
      omega
    · have e2 : (F j).b = (F 0).a := by
        rw [show j = m' + 1 - 1 by omega]
        exact R.close
      have := R.inj (i + 1) 0 (by omega) (by omega) (by rw [← e1, ← e2, e])
      omega
  refine ⟨hlen, h24, ?_, hall, ?_, ?_, ?_⟩
  · refine sm_mono (by decide) (by decide) (by decide) (tm_sm (steps_tm (k := n.ws.length) ?_ hall h24))
    rw [← steps_succ, steps_len]
    omega
  · refine ⟨(List.range (m' + 1)).map fun j => (F j).b, ?_, ?_, nodup_rg hb⟩
    · show wayK n.ws (lkSt (F 0) :: stepsOf (fun j => F (j + 1)) m') (endsOf n.ws (lkSt (F 0))).1 = _
      rw [← steps_succ, hs0]
      exact chainK (m' + 1) F _ R.mem R.link fun _ => rfl
    · show lastK (endsOf n.ws (lkSt (F 0))).1 _ = (endsOf n.ws (lkSt (F 0))).1
      rw [lastK_range, hs0]
      exact R.close
  · show ((lkSt (F 0) :: stepsOf (fun j => F (j + 1)) m').map (·.1)).Nodup
    rw [← steps_succ, steps_fst]
    refine nodup_rg fun i j hij hj e => ?_
    rcases both_ways hr (R.mem i (by omega)) (R.mem j hj) e with h | ⟨h1, h2, h3⟩
    · have := R.inj i j (by omega) hj h
      omega
    · have e1 := R.link i (by omega)
      have i1 := R.inj (i + 1) j (by omega) hj (by rw [← e1, h2])
      have hj0 : i = 0 ∧ j = m' := by
        by_cases hj1 : j + 1 < m' + 1
        · have := R.inj (j + 1) i hj1 (by omega) (by rw [← R.link j hj1, h1])
          omega
        · have e2 : (F j).b = (F 0).a := by
            rw [show j = m' + 1 - 1 by omega]
            exact R.close
          have := R.inj 0 i (by omega) (by omega) (by rw [← e2, h1])
          omega
      obtain ⟨rfl, rfl⟩ := hj0
      have hm1 : j = 1 := by omega
      subst hm1
      have := R.neg
      have z : psum (fun j => (F j).l) (1 + 1) = (0 + (F 0).l) + (F 1).l := rfl
      omega
  · refine ⟨_, ?_, R.neg⟩
    show lenOf rs (lkSt (F 0) :: stepsOf (fun j => F (j + 1)) m') = _
    rw [← steps_succ]
    exact chainL (m' + 1) F R.mem
end RN
end

section
set_option Elab.async false
set_option linter.all false
set_option maxRecDepth 100000
set_option maxHeartbeats 4000000
set_option autoImplicit false
/-! RN_P2: plain: what is told is small, and is right. -/
namespace RN
open PySem PySem.Spec L2
theorem psum_bd {f : Nat → Int} {B : Nat} : ∀ {m : Nat}, (∀ j, j < m → (f j).natAbs ≤ B) → (psum f m).natAbs ≤ m * B
  | 0, _ => Nat.zero_le _
  | m + 1, h => by
    have ih := psum_bd (f := f) (B := B) (m := m) fun j hj => h j (by omega)
    have h0 := h m (by omega)
    rw [Nat.succ_mul]
    show (psum f m + f m).natAbs ≤ _
    omega
theorem lk_bd {ws : List Wi} {rs : List Rg} (hr : ∀ r ∈ rs, rgOk r) {e : Lk} (h : e ∈ linksOf ws rs) : e.l.natAbs ≤ 10 ^ 60 := by
  obtain ⟨j, x, r, hj, hx, hrj, h⟩ := lkUp_mem h
  have hmem : r ∈ rs := List.mem_of_getElem? hrj
  rcases h with ⟨lo, hl, rfl⟩ | ⟨hi, hh, rfl⟩
  · have := (hr r hmem).1 lo hl
    show (-lo).natAbs ≤ 10 ^ 60
    omega
  · have := (hr r hmem).2.1 hi hh
    show hi.natAbs ≤ 10 ^ 60
    omega
theorem way_few {n : NetD} {rs : List Rg} (hn : n.ok) {F : Nat → Lk} {m s g : Nat} {x : Int} (w : Way (Lks n rs) F m s g x) : m ≤ n.k := few_of (g := fun j => (F j).a) (fun j hj => (lks_ok (rs := rs) hn _ (w.mem j hj)).1) w.inj
theorem lot_mem {k : Nat} {far : Far} {v : Nat} : v ∈ lotOf k far ↔ v < k ∧ far v = none := by
  unfold lotOf
  rw [List.mem_filter, List.mem_range, Option.isNone_iff_eq_none]
theorem lot_len (k : Nat) (far : Far) : (lotOf k far).length ≤ k := by
  unfold lotOf
  exact Nat.le_trans (List.length_filter_le _ _) (by rw [List.length_range]; exact Nat.le_refl _)
/-- what is told is small -/
theorem told_tm {z : FarA} (hk : z.n.k ≤ 6) (hn : z.n.ok) (hr : ∀ r ∈ z.rs, rgOk r) {d : D} (h : z.post d) : D.tm 6 4 d = true := by
  obtain ⟨far, ah, ap, h⟩ := h
  rcases h with ⟨_, rfl⟩ | ⟨x, st, hx, rfl, h0, h1⟩
  · refine tm_tupI (Nat.le_of_ble_eq_true rfl) fun d hd => ?_
    rcases List.mem_cons.mp hd with rfl | hd
    · show smS _ = true
      decide
    · rw [List.mem_singleton.mp hd]
      refine tm_tupI ?_ fun d hd => ?_
      · have := lot_len z.n.k far
        rw [List.length_map]
        omega
      · obtain ⟨v, hv, rfl⟩ := List.mem_map.mp hd
        have := (lot_mem.mp hv).1
        exact decide_eq_true (by omega)
  · have hfacts : x.natAbs ≤ 10 ^ 61 ∧ st.length ≤ 6 ∧ ∀ p ∈ st, StepIn z.n.ws.length p := by
      by_cases e : z.g = z.s
      · rw [h0 e]
        rw [e, ap.st0] at hx
        cases hx
        exact ⟨by decide, by decide, fun _ h => nomatch h⟩
      · obtain ⟨m, F, hm, w, rfl⟩ := h1 e
        have hf := way_few hn w
        refine ⟨?_, by rw [steps_len]; omega, fun p hp => ?_⟩
        · have b := psum_bd (f := fun j => (F j).l) (B := 10 ^ 60) (m := m) fun j hj => lk_bd hr (w.mem j hj)
          rw [w.len] at b
          have : m * 10 ^ 60 ≤ 6 * 10 ^ 60 := Nat.mul_le_mul_right _ (by omega)
          omega
        · obtain ⟨j, hj, rfl⟩ := steps_mem hp
          exact (link_step (w.mem j hj)).1
    obtain ⟨b1, b2, b3⟩ := hfacts
    refine tm_tupI (Nat.le_of_ble_eq_true rfl) fun d hd => ?_
    rcases List.mem_cons.mp hd with rfl | hd
    · show smS _ = true
      decide
    · rcases List.mem_cons.mp hd with rfl | hd
      · exact decide_eq_true b1
      · rw [List.mem_singleton.mp hd]
        exact steps_tm b2 b3 hn.2.2.1
theorem rises_of : ∀ {l : List Nat}, l.Pairwise (· < ·) → risesD (l.map fun (v : Nat) => D.int (v : Int)) = true
  | [], _ => rfl
  | [_], _ => rfl
  | a :: b :: r, h => by
    obtain ⟨h1, h2⟩ := List.pairwise_cons.mp h
    have := h1 b List.mem_cons_self
    show (decide ((a : Int) < (b : Int)) && risesD ((b :: r).map fun (v : Nat) => D.int (v : Int))) = true
    rw [decide_eq_true (by omega), rises_of h2]
    rfl
theorem inLot_lot {l : List Nat} {x : Nat} : inLot (l.map fun (v : Nat) => D.int (v : Int)) x = decide (x ∈ l) := by
  unfold inLot
  rw [Bool.eq_iff_iff, List.any_eq_true, decide_eq_true_eq]
  refine ⟨fun ⟨d, hd, e⟩ => ?_, fun h => ⟨_, List.mem_map.mpr ⟨x, h, rfl⟩, ?_⟩⟩
  · obtain ⟨v, hv, rfl⟩ := List.mem_map.mp hd
    have e' : ((v : Int) == (x : Int)) = true := e
    rw [beq_iff_eq] at e'
    rw [show x = v by omega]
    exact hv
  · show ((x : Int) == (x : Int)) = true
    rw [beq_iff_eq]
/-- what is told is right -/
theorem told_far {z : FarA} (hn : z.n.ok) (hlen : z.rs.length = z.n.ws.length) (hg : z.g < z.n.k) (hs : z.s < z.n.k) (hf : ∃ π, Pot (Lks z.n z.rs) π) {d : D} (h : z.post d) : isFar z.n.ws z.rs z.n.k z.s z.g (fwAll z.n.k (Lks z.n z.rs) z.s z.g) d = true := by
  obtain ⟨far, ah, ap, h⟩ := h
  obtain ⟨π, p⟩ := hf
  rw [apart_fw (lks_ok hn) ap hs p]
  rcases h with ⟨hx, rfl⟩ | ⟨x, st, hx, rfl, h0, h1⟩
  · show (decide ("endless" = ("endless" : Str)) && (isLot z.n.k (lotD (lotOf z.n.k far)) && (inLot (dItems (lotD (lotOf z.n.k far))) z.g && (!inLot (dItems (lotD (lotOf z.n.k far))) z.s && canRise z.n.ws z.rs (dItems (lotD (lotOf z.n.k far))))))) = true
    have hl : isLot z.n.k (lotD (lotOf z.n.k far)) = true := by
      show (((lotOf z.n.k far).map fun (v : Nat) => D.int (v : Int)).all (knotIn z.n.k) && risesD ((lotOf z.n.k far).map fun (v : Nat) => D.int (v : Int))) = true
      rw [rises_of (by unfold lotOf; exact List.Pairwise.filter _ List.pairwise_lt_range), Bool.and_true, List.all_eq_true]
      intro d hd
      obtain ⟨v, hv, rfl⟩ := List.mem_map.mp hd
      have := (lot_mem.mp hv).1
      show (decide (0 ≤ (v : Int)) && decide ((v : Int) < (z.n.k : Int))) = true
      rw [decide_eq_true (by omega), decide_eq_true (by omega)]
      rfl
    rw [hl]
    show (true && (true && (inLot ((lotOf z.n.k far).map fun (v : Nat) => D.int (v : Int)) z.g && (!inLot ((lotOf z.n.k far).map fun (v : Nat) => D.int (v : Int)) z.s && canRise z.n.ws z.rs ((lotOf z.n.k far).map fun (v : Nat) => D.int (v : Int)))))) = true
    rw [inLot_lot, inLot_lot, decide_eq_true (lot_mem.mpr ⟨hg, hx⟩), decide_eq_false fun y => by rw [lot_mem, ap.st0] at y; exact nomatch y.2]
    show canRise z.n.ws z.rs _ = true
    unfold canRise
    rw [List.all_eq_true]
    intro i hi
    rw [List.mem_range] at hi
    have hw : z.n.ws[i]? = some z.n.ws[i] := List.getElem?_eq_getElem hi
    have hr : z.rs[i]? = some (z.rs[i]'(by omega)) := List.getElem?_eq_getElem (by omega)
    rw [wireAt_of hw, rangeAt_of hr, inLot_lot, inLot_lot]
    generalize z.n.ws[i] = x at hw ⊢
    generalize z.rs[i]'(by omega) = r at hr ⊢
    have hlk : ∀ e ∈ Lks z.n z.rs, far e.b = none → far e.a = none := fun e he hb => by
      cases q : far e.a with
      | none => rfl
      | some y =>
        obtain ⟨v, q2, _⟩ := ap.feas e he y q
        rw [hb] at q2
        cases q2
    rw [Bool.and_eq_true, Bool.not_eq_true', Bool.not_eq_true']
    constructor
    · cases q : r.2 with
      | none => rw [show (none : Option Int).isSome = false from rfl, Bool.and_false, Bool.and_false]
      | some hi' =>
        have hmem := lk_hi hw hr q
        have ok := lks_ok (rs := z.rs) hn _ hmem
        by_cases ht : x.t ∈ lotOf z.n.k far
        · have := hlk _ hmem (lot_mem.mp ht).2
          rw [decide_eq_true ht, decide_eq_true (lot_mem.mpr ⟨ok.1, this⟩)]
          rfl
        · rw [decide_eq_false ht]
          rfl
    · cases q : r.1 with
      | none => rw [show (none : Option Int).isSome = false from rfl, Bool.and_false, Bool.and_false]
      | some lo' =>
        have hmem := lk_lo hw hr q
        have ok := lks_ok (rs := z.rs) hn _ hmem
        by_cases ht : x.h ∈ lotOf z.n.k far
        · have := hlk _ hmem (lot_mem.mp ht).2
          rw [decide_eq_true ht, decide_eq_true (lot_mem.mpr ⟨ok.1, this⟩)]
          rfl
        · rw [decide_eq_false ht]
          rfl
  · show (decide ("most" = ("most" : Str)) && ((D.int x).whole && isMost z.n.ws z.rs z.s z.g (far z.g) (.int x) (stepsD st))) = true
    rw [hx]
    show (true && (true && (decide (x = x) && (areSteps z.n.ws.length (stepsD st) && (isWay z.n.ws z.s z.g (unSteps (stepsD st)) && decide (lenOf z.rs (unSteps (stepsD st)) = some x)))))) = true
    rw [decide_eq_true (rfl : x = x), unSteps_st]
    by_cases e : z.g = z.s
    · rw [h0 e]
      rw [e, ap.st0] at hx
      cases hx
      rw [e]
      show (true && (true && (true && (true && (isWay z.n.ws z.s z.s [] && true))))) = true
      unfold isWay wayK lastK
      simp
    · obtain ⟨m, F, hm, w, rfl⟩ := h1 e
      have hall : areSteps z.n.ws.length (stepsD (stepsOf F m)) = true := areSteps_st fun p hp => by
        obtain ⟨j, hj, rfl⟩ := steps_mem hp
        exact (link_step (w.mem j hj)).1
      have hlen' : lenOf z.rs (stepsOf F m) = some x := by rw [chainL m F w.mem, w.len]
      rw [hall, hlen', decide_eq_true rfl]
      unfold isWay
      rw [chainK m F z.s w.mem w.link w.fst]
      obtain ⟨m', rfl⟩ : ∃ m', m = m' + 1 := ⟨m - 1, by omega⟩
      show (true && (true && (true && (true && ((decide (lastK z.s ((List.range (m' + 1)).map fun j => (F j).b) = z.g) && decide (z.s :: (List.range (m' + 1)).map fun j => (F j).b).Nodup) && true))))) = true
      rw [lastK_range, decide_eq_true (show (F m').b = z.g from w.lst (by omega))]
      have nd : (z.s :: (List.range (m' + 1)).map fun j => (F j).b).Nodup := by
        have hb : ∀ j, j < m' + 1 → ((F j).b = z.g ∧ j = m') ∨ (j + 1 < m' + 1 ∧ (F j).b = (F (j + 1)).a) := fun j hj => by
          by_cases h : j + 1 < m' + 1
          · exact .inr ⟨h, w.link j h⟩
          · have : j = m' := by omega
            subst this
            exact .inl ⟨w.lst (by omega), rfl⟩
        have hs0 : (F 0).a = z.s := w.fst (by omega)
        refine List.nodup_cons.mpr ⟨fun h => ?_, nodup_rg fun i j hij hj he => ?_⟩
        · obtain ⟨j, hj, he⟩ := List.mem_map.mp h
          rw [List.mem_range] at hj
          rcases hb j hj with ⟨h1, _⟩ | ⟨h1, h2⟩
          · exact e (h1.symm.trans he)
          · have := w.inj (j + 1) 0 h1 (by omega) (by rw [← h2, he, hs0])
            omega
        · rcases hb i (by omega) with ⟨_, h1⟩ | ⟨h1, h2⟩
          · omega
          · rcases hb j hj with ⟨h3, _⟩ | ⟨h3, h4⟩
            · exact w.fresh (i + 1) h1 (by rw [← h2, he, h3])
            · have := w.inj (i + 1) (j + 1) h1 h3 (by rw [← h2, ← h4, he])
              omega
      rw [decide_eq_true nd]
      rfl
end RN
end

section
set_option Elab.async false
set_option linter.all false
set_option maxRecDepth 100000
set_option maxHeartbeats 4000000
set_option autoImplicit false
/-! RN_Exc: Refused(reason): an own class over ArithmeticError whose __init__ says super().__init__(reason) and keeps the reason. -/
namespace PySem.RNX
open PySem PySem.W PySem.Calls PyProof.Rows
abbrev rx (C t : Addr) (d : Option Addr) : Obj := { cls := .ref C, dict := d, data := .fields #[.ref t, .none, .none, .none, .bool false, .none] }
/-- what the written part says of the class and of its __init__ -/
structure RefF (P : Program) (K : Frag) (C fI : Addr) (params : Arguments) (body : List Stmt) (scope : Scope) : Prop where
  lk : ∃ (oc : Value) (od : Option Addr) (osl : Array (Option Value)) (kV doc pm : Value) (an : Option Addr) (ct : Value) (cda cc : Addr) (ccl : Value) (cdd : Option Addr) (ccs : Array (Option Value)) (vs : Array Value) (file : Str) (tf : Tok) (cl : Value) (cld : Option Addr) (csl : Array (Option Value)),
    K.lookup fI = some ⟨oc, od, .func (ksFn "__init__" "Refused.__init__" params body scope .none kV doc pm an (.ref cda) ct cc), osl⟩ ∧ codeIn K (.ref cda) "Refused.__init__" = true ∧ K.lookup cda = some ⟨ccl, cdd, .fields vs, ccs⟩ ∧ vs[2]? = some (.str file tf) ∧ ((P.main.file : Str) == file) = true ∧ K.lookup cc = some ⟨cl, cld, .cell (some (.ref C)), csl⟩
  cls : ∃ cd, clsIn K C = some cd
  sub : mroIn K C (.ref C) = some true
  noAny : nsIn K cStatics "thirdparty.any" = some none
  sup : ks_superIn K C C "__init__" = some (some (.builtin aeI))
  subA : subIn K (.ref C) (.type "ArithmeticError") = some true
  top : (P.main.scope.names.lookup ("super" : Str)).isSome = false
  exc : excInitIn K C aeTail "ArithmeticError.__new__" = true
  init : findIn K (.ref C) "__init__" = some (some (.ref fI))
  fn : isFn K (.ref fI) = true
  keep : keepIn K (.ref C) = true
  sa : findIn K (.ref C) "__setattr__" = some (some (.builtin "object.__setattr__"))
  over : excOver K C aeTail = true
  tk : takerIn K C "reason" = some none
  hd : hasDictIn K C = true
  exC : subIn K (.ref C) (.type "BaseException") = some true
  tyC : typeIn K (.ref C) = some (.type "type")
  ga : findIn K (.ref C) "__getattribute__" = some (some (.builtin "BaseException.__getattribute__"))
  gg : findIn K (.ref C) "__getattr__" = some none
  no : findIn K (.ref C) "reason" = some none
  te : exmOne K (.ref C) (.ref C) = some true
/-- what the text says of __init__ -/
structure RefT (params : Arguments) (body : List Stmt) (scope : Scope) : Prop where
  text : ∃ p0 p1 p2 p3 p4 p5 p6 p7 p8 p9, body = [.Expr (.Call (.Attribute (.Call (.Name "super" p0) [] [] p1) "__init__" p2) [.Name "reason" p3] [] p4) p5, .Assign [.Attribute (.Name "self" p6) "reason" p7] (.Name "reason" p8) p9] ∧
    ∀ (L f : Addr) (cdv : Value) (cc : Addr), (∃ pl, eval (.Call (.Attribute (.Call (.Name "super" p0) [] [] p1) "__init__" p2) [.Name "reason" p3] [] p4) (ksEnv "Refused.__init__" scope L f cdv cc) = (do
        let ov ← attributeBase (.Call (.Name "super" p0) [] [] p1) "__init__" (ksEnv "Refused.__init__" scope L f cdv cc) (eval (.Call (.Name "super" p0) [] [] p1) (ksEnv "Refused.__init__" scope L f cdv cc))
        standAt p2.atName
        let (f', first) ← holding [ov] (getMethod ov "__init__" pl)
        callWith p4 f' first (backTo p4 (starEach [.Name "reason" p3] (ksEnv "Refused.__init__" scope L f cdv cc))) [])) ∧
      swapsWith (.Call (.Attribute (.Call (.Name "super" p0) [] [] p1) "__init__" p2) [.Name "reason" p3] [] p4) none p5.line (ksEnv "Refused.__init__" scope L f cdv cc) = pure false ∧
      swapsWith (.Name "reason" p8) (some (.Attribute (.Name "self" p6) "reason" p7)) p9.line (ksEnv "Refused.__init__" scope L f cdv cc) = pure false
  inter : ∀ (L f : Addr) (cdv : Value) (cc : Addr), interactive (ksEnv "Refused.__init__" scope L f cdv cc) = false
  bind : ∀ kV doc pm an cdv ct cc (e u : Value), bindArgs (ksFn "__init__" "Refused.__init__" params body scope .none kV doc pm an cdv ct cc) ⟨[e, u], []⟩ = (pure [(("self" : Str), e), (("reason" : Str), u)] : Sem (List (Str × Value)))
  head : ∃ ar, (params.posonlyargs ++ params.args).head? = some ar ∧ ar.arg = "self"
  sup : scope.names.lookup ("super" : Str) = some .globalImplicit
  cls : scope.names.lookup ("__class__" : Str) = some .free
  self : scope.names.lookup ("self" : Str) = some .local
  reason : scope.names.lookup ("reason" : Str) = some .local
  cell : ∀ x ∈ scope.names, x.2 ≠ .cell
  co : scope.isCoroutine = false
  gen : scope.isGenerator = false
  kind : scope.kind = .function
section
variable {P : Program} {w : World} {A : Around} {E : Value → Shared → Prop} {K : Frag} {C fI : Addr} {params : Arguments} {body : List Stmt} {scope : Scope} {g : Array GenState} {d : Drawn} {t : Nat} {os : OsState}
/-- the bound __init__ of the base, called -/
theorem call_mw {h : Heap} {m e t0 : Addr} {u : Value} {Q : Value → Shared → Prop} (X : K.In h) (q : excInitIn K C aeTail "ArithmeticError.__new__" = true) (hm : h.get? m = some (kxs_mw aeI e)) (he : h.get? e = some (rx C t0 none))
    (hq : ∀ h' t1, (∀ b o, b ≠ e → h.get? b = some o → h'.get? b = some o) → h'.get? e = some (rx C t1 none) → Q .none ⟨h', g, d, t, os⟩) : wpAny (model P w) A (call (.ref m) [u]) Q E ⟨h, g, d, t, os⟩ := by
  obtain ⟨_, _, _, _, _, _, _, _, _, _, _, _, _, _, _, _, hC, hT⟩ := excInit_of X q
  have FB := PySem.F.excBase_ArithmeticError
  refine wpAny_call (codeAny_of_tree (?_ : wpAny _ A.in1 (callAny (.ref m) ⟨[u], []⟩) _ _ _))
  simp only [callAny]
  refine wpAny_bind (wpAny_load hm ?_)
  simp only [kxs_mw, show (Value.type "method-wrapper" == Value.type "method" || Value.type "method-wrapper" == Value.type "builtin_function_or_method" || Value.type "method-wrapper" == Value.type "method-wrapper") = true by decide, if_true]
  refine KFB.if_so (by decide) (wpAny_bind (check_bound_init FB.toExcCallFacts hC he rfl (wpAny_bind (wpAny_pure (wpAny_pure ⟨plainId_quiet FB.init.plain _, codeAny_builtin FB.initEntry ?_⟩)))))
  exact exc_init_tree (cls := .ref C) (t0 := t0) (dv := none) (c2 := .none) (c3 := .none) (b4 := .bool false) he (by rw [sizeLine_eq]; exact Nat.le_of_ble_eq_true rfl) fun h' k e1 _ => hq h' _ k e1
/-- self.reason = u -/
theorem set_reason {h : Heap} {e t0 : Addr} {u : Value} {Q : Unit → Shared → Prop} (F : RefF P K C fI params body scope) (X : K.In h) (he : h.get? e = some (rx C t0 none))
    (hq : ∀ h' tk' dx, (∀ b o, b ≠ e → h.get? b = some o → h'.get? b = some o) → h.objs.size ≤ dx → dx ≠ e → h'.get? e = some (rx C t0 (some dx)) → h'.Ns1 dx (fun y => if y = "reason" then some u else none) → Q () ⟨h', g, d, tk', os⟩) :
    wpAny (model P w) A (setAttr (.ref e) "reason" u) Q E ⟨h, g, d, t, os⟩ := by
  have I : InstAt h e (rx C t0 none) C none := ⟨he, rfl, rfl, trivial⟩
  refine set_plain X I F.sa (osa_openX (s := ⟨h, g, d, t + 1, os⟩) PySem.F.store_ArithmeticError X I F.over F.tk fun b => ?_)
  obtain ⟨cd, hc, hd'⟩ := any_some F.hd
  have hxs : e ≠ h.objs.size := Nat.ne_of_lt (Heap.lt_size he)
  refine wpAny_bind (wpAny_pure (wpAny_bind (instanceDict_exc he (looks_clsIn X hc) hd' ?_)))
  have hk : ∀ b o, b ≠ e → h.get? b = some o → ((h.push (dictOf [] 0)).update e fun o => { o with dict := some h.objs.size }).get? b = some o := fun b o hb ho => (Heap.get?_update_ne _ _ _ _ hb).trans (Heap.get?_push_of_some _ ho)
  refine HandSPX.store_in_new (hp := (h.push (dictOf [] 0)).update e fun o => { o with dict := some h.objs.size }) (dx := h.objs.size) ?_ fun h' tk' hn' hs => ?_
  · exact ⟨_, #[], _, (Heap.get?_update_ne _ _ _ _ hxs.symm).trans (Heap.get?_push_at rfl rfl), rfl, fun e he => absurd he (by simp), fun _ => rfl⟩
  · refine hq h' tk' h.objs.size (fun b o hb ho => (hs.2 b (Nat.ne_of_lt (Heap.lt_size ho))).trans (hk b o hb ho)) (Nat.le_refl _) hxs.symm ?_ hn'
    exact (hs.2 e hxs).trans (Heap.get?_update_self _ (Heap.get?_push_of_some _ he) rfl)
/-- Refused.__init__(e, u) -/
theorem init_run {b0 hp : Heap} {mg mb : Str → Option Value} {e t0 : Addr} {u : Value} {R : Result → Shared → Prop} (F : RefF P K C fI params body scope) (T : RefT params body scope) (X : K.In b0) (hlim : hp.NoLimit) (hg : b0.Ns mainGlobals mg) (hmg : mg "super" = none)
    (hb : b0.Ns builtinsNs mb) (hmb : mb "super" = some (.type "super")) (kb : ∀ b o, b0.get? b = some o → hp.get? b = some o) (hbe : b0.get? e = none) (hroom : A.depth < recursionLimit) (he : hp.get? e = some (rx C t0 none))
    (hq : ∀ h' tk' dx t1, (∀ b o, b ≠ e → hp.get? b = some o → h'.get? b = some o) → hp.objs.size ≤ dx → dx ≠ e → h'.get? e = some (rx C t1 (some dx)) → h'.Ns1 dx (fun y => if y = "reason" then some u else none) → R (.ok (.ret .none)) ⟨h', g, d, tk', os⟩) :
    codeAny (model P w) A (.call (.ref fI) ⟨[.ref e, u], []⟩) R ⟨hp, g, d, t, os⟩ := by
  obtain ⟨oc, od, osl, kV, doc, pm, an, ct, cda, cc, ccl, cdd, ccs, vs, file, tf, cl, cld, csl, hf, hcd, hcode, hvs, hfile, hcell⟩ := F.lk
  obtain ⟨p0, p1, p2, p3, p4, p5, p6, p7, p8, p9, hbody, htext⟩ := T.text
  obtain ⟨ar, har, harn⟩ := T.head
  obtain ⟨cd, hcd'⟩ := F.cls
  have hk := T.kind
  have nbe : ∀ b o, b0.get? b = some o → b ≠ e := fun b o z y => by
    rw [y, hbe] at z
    cases z
  have Xp : K.In hp := X.keeps kb
  have lte := Heap.lt_size he
  refine ks_codeAny_call_defAt (fd := ksFn "__init__" "Refused.__init__" params body scope .none kV doc pm an (.ref cda) ct cc) (body := body) (binds := [("self", .ref e), ("reason", u)]) hroom (Xp _ _ hf) rfl hlim (codeRec_of Xp hcd) rfl (BindsTo.of_eq (T.bind ..)) T.cell
    (fun x hx => by
      rcases List.mem_cons.mp hx with rfl | hx
      · exact T.self
      · rw [List.mem_singleton.mp hx]
        exact T.reason) (fun h0 hns k0 => ?_) T.co T.gen T.kind
  show wpAt (model P w) (A.deeper (ksEnv "Refused.__init__" scope hp.objs.size fI (.ref cda) cc)) (.func body (ksEnv "Refused.__init__" scope hp.objs.size fI (.ref cda) cc)) (execs body (ksEnv "Refused.__init__" scope hp.objs.size fI (.ref cda) cc)) _ _ _
  have k0b : ∀ b o, b0.get? b = some o → h0.get? b = some o := fun b o z => k0 b o (kb b o z)
  have X0 : K.In h0 := X.keeps k0b
  have he0 := k0 _ _ he
  obtain ⟨oD, hD1, hD2⟩ : ∃ oD, h0.get? C = some oD ∧ oD.data = .cls cd := by
    have hcd2 := hcd'
    unfold clsIn at hcd2
    split at hcd2
    · rename_i c d cd' sl ho
      cases hcd2
      exact ⟨_, X0 _ _ ho, rfl⟩
    · cases hcd2
  rw [hbody]
  obtain ⟨⟨pl, hev⟩, hs1, hs2⟩ := htext hp.objs.size fI (.ref cda) cc
  refine ks_wpAt_execs_cons (ks_wpAt_Expr_any (ks_wpAt_MethodCall ?_ hev) (T.inter ..) hs1)
  refine ks_wpAt_super_base (env := ksEnv "Refused.__init__" scope hp.objs.size fI (.ref cda) cc) T.sup T.cls rfl rfl (X0 _ _ hf) rfl har rfl (X0 _ _ hcode) rfl hvs hfile F.top ?_
  refine ks_loadName_global hk T.sup (loadGlobal_builtin (env := ksEnv "Refused.__init__" scope hp.objs.size fI (.ref cda) cc) (hg.keeps k0b) hmg (hb.keeps k0b) hmb ⟨rfl, ?_⟩)
  refine wpAny_loadName_free hk T.cls rfl ⟨_, X0 _ _ hcell, rfl⟩ ?_
  rw [harn]
  refine wpAny_loadName_local hk T.self hns rfl ?_
  refine ks_wpAny_isType_cls hD1 hD2 ⟨rfl, ?_⟩
  refine ks_wpAny_call_super hD1 hD2 he0 rfl (fun c z => nomatch z) (looks_mroIn X0 F.sub) fun h1 hso k1 => ?_
  have X1 : K.In h1 := X0.keeps k1
  have he1 := k1 _ _ he0
  have hns1 := hns.keeps k1
  have I1 : InstAt h1 e (rx C t0 none) C none := ⟨he1, rfl, rfl, trivial⟩
  have hI : Looks (model P w) h1 (isInstance (.ref e) (.type "ArithmeticError")) true := I1.type.andThen (looks_subIn X1 F.subA)
  have hm : alongIn K "__init__" ((cd.mro.dropWhile (· != .ref C)).drop 1) = some (some (.builtin aeI)) := by
    have := F.sup
    unfold ks_superIn at this
    rw [hcd', Option.bind_some] at this
    exact this
  refine kxs_getMethod kxs_ArithmeticError hso (looks_opaque X1 F.noAny) (l₀ := cd.mro) (fun A Q E s k q => wpAny_bind ((looks_clsIn X1 hcd') A _ E s k (wpAny_pure q))) rfl X1 hm hI (ks_ne X1 I1 hcd') rfl ?_
  have k2 : ∀ b o, h1.get? b = some o → (h1.push (kxs_mw aeI e)).get? b = some o := fun b o z => Heap.get?_push_of_some _ z
  have hns2 := hns1.keeps k2
  have hm2 : (h1.push (kxs_mw aeI e)).get? h1.objs.size = some (kxs_mw aeI e) := Heap.get?_push_at rfl rfl
  refine kxs_callWith (i := aeI) (x := e) rfl (evalArgs_plain (x := eval (.Name "reason" p3) (ksEnv "Refused.__init__" scope hp.objs.size fI (.ref cda) cc)) (rest := []) ?_)
  refine spliced_cons (wpAny_Name (wpAny_loadName_local (env := (ksEnv "Refused.__init__" scope hp.objs.size fI (.ref cda) cc)) hk T.reason hns2 rfl ?_) (by decide))
  refine spliced_nil ⟨hm2, ?_⟩
  have X2 : K.In (h1.push (kxs_mw aeI e)) := X1.keeps k2
  refine call_mw X2 F.exc hm2 (k2 _ _ he1) fun h3 t1 k3 e3 => ?_
  have kb3 : ∀ b o, b0.get? b = some o → h3.get? b = some o := fun b o z => k3 b o (nbe b o z) (k2 b o (k1 b o (k0b b o z)))
  have X3 : K.In h3 := X.keeps kb3
  have hns3 : h3.Ns hp.objs.size (fun x => [(("self" : Str), Value.ref e), (("reason" : Str), u)].reverse.lookup x) := by
    obtain ⟨oL, es, ep, hL, r⟩ := hns2
    exact ⟨oL, es, ep, k3 _ _ (Nat.ne_of_gt lte) hL, r⟩
  refine ks_wpAt_execs_cons (ks_wpAt_Assign_Attr ?_ hs2)
  refine wpAt_of_wpAny (wpAny_Name (wpAny_loadName_local hk T.reason hns3 rfl ?_))
  refine wpAny_Name (wpAny_loadName_local hk T.self hns3 rfl ?_)
  refine set_reason F X3 e3 fun h4 tk4 dx k4 l4 n4 e4 ns4 => ?_
  refine wpAt_of_wpAny (wpAny_execs_nil ?_)
  refine hq h4 tk4 dx t1 (fun b o hb z => k4 b o hb (k3 b o hb (k2 b o (k1 b o (k0 b o z))))) ?_ n4 e4 ns4
  refine Nat.le_trans (Nat.le_of_lt ?_) l4
  obtain ⟨oL, es, ep, hL, r⟩ := hns3
  exact Heap.lt_size hL
end
end PySem.RNX
namespace L2
open PySem PySem.Spec PyProof.Rows PySem.RNX
/-- Refused(e) -/
def tMkR (C : Addr) (ta : TA) : St → Hp → XK → Prop := fun σ H Q => ta σ H fun vs H1 => ∃ v, vs = [v] ∧ ∀ d, H1 d = none → Q (.ref C) (some d) (upd H1 d (.xd [("reason", v)]))
theorem pmk_ref {X : Cx} {C fI : Addr} {k : Nat} {params : Arguments} {body : List Stmt} {scope : Scope} {e : Expr} {ta : TA} {p pos : Pos} (F : RefF X.prog X.K C fI params body scope) (T : RefT params body scope) (hr : Room (k + 1) X.A) (hg : Gl X "Refused") (hm : X.mg "Refused" = some (.ref C)) (hsup : X.mg "super" = none) (ha : PA X [e] ta)
    (he : starEach [e] X.env = (false, eval e X.env) :: starEach [] X.env := by rfl) : PMk X (.Call (.Name "Refused" p) [e] [] pos) (tMkR C ta) := by
  intro pins s σ H Q I h
  refine wpAny_Call_Name_kw (ld_glob I hg hm ?_)
  refine PySem.W.callWith_K (h₀ := X.base) I.ok.mod.kin F.keep (thn (ha.run pos pins s σ H _ I h) fun us s1 ⟨vs, H1, I1, r1, v, ev, q1⟩ => ⟨I1.kIn, ?_⟩) he rfl
  show wpAny _ _ (call (.ref C) us) _ _ _
  subst ev
  obtain ⟨u, rfl, ru⟩ := vals1 r1
  obtain ⟨nm, N, q, bs, bm, hdct, sn, sub, ab, col, dd, k0, k1, k2, k3, k5, hC, hT⟩ := PySem.W.excInit_of I1.kIn F.exc
  obtain ⟨hp, g, dr, tk, os⟩ := s1
  have kk : ∀ b o, hp.get? b = some o → ((hp.push (PySem.W.kdv_tup [u])).push (PySem.HandSPX.excO C hp.objs.size)).get? b = some o := fun b o e => Heap.get?_push_of_some _ (Heap.get?_push_of_some _ e)
  have hget : ((hp.push (PySem.W.kdv_tup [u])).push (PySem.HandSPX.excO C hp.objs.size)).get? (hp.objs.size + 1) = some (rx C hp.objs.size none) := by heap_get
  obtain ⟨mb, hb1, hb2⟩ := I.mod.blt
  have fnT : PySem.W.typeIn X.K (.ref fI) = some (.type "function") := beq_iff_eq.mp F.fn
  have hbe : X.base.get? (hp.objs.size + 1) = none := by
    cases z : X.base.get? (hp.objs.size + 1) with
    | none => rfl
    | some o => exact absurd (Heap.lt_size (I1.bk _ _ z)) (by show ¬ (hp.objs.size + 1 < hp.objs.size); omega)
  refine wpAny_call (PySem.HandSPX.call_own PySem.F.excBase_ArithmeticError hT hC (PySem.W.looks_findIn I1.kIn F.init) (fun self => PySem.W.bind_fn I1.kIn self fnT) (by rw [sizeLine_eq]; exact Nat.le_of_ble_eq_true rfl)
    (init_run (b0 := X.base) F T I.mod.kin ((I1.nolimit.push _).push _) I.mod.glob hsup hb1 (hb2 _ (by decide)) (fun b o z => kk b o (I1.bk b o z)) hbe (hr.make C [u] []).depth hget fun h' tk' dx t1 k' l' n' e' ns' => ?_))
  have hl : hp.objs.size ≤ dx := by
    rw [Heap.size_push, Heap.size_push] at l'
    omega
  have kh : ∀ b o, hp.get? b = some o → h'.get? b = some o := fun b o z => k' b o (Nat.ne_of_lt (Nat.lt_succ_of_lt (Heap.lt_size z))) (kk b o z)
  obtain ⟨G, g1, g2⟩ := restrict h' fun b => decide (b ≠ hp.objs.size + 1)
  have gk : ∀ b, b ≠ hp.objs.size + 1 → G.get? b = h'.get? b := fun b hb => g1 b (decide_eq_true hb)
  have ge : G.get? (hp.objs.size + 1) = none := g2 _ (by simp)
  have hn : H1 dx = none := I1.hok.fresh hl
  have ha1 : H1 (hp.objs.size + 1) = none := I1.hok.fresh (Nat.le_succ _)
  have J : Inv X pins σ (upd H1 dx (.xd [("reason", v)])) ⟨G, g, dr, tk', os⟩ :=
    I1.laid (t' := tk') (a := dx) (o := .xd [("reason", v)]) (h' := G) (fun b o z => (gk b (Nat.ne_of_lt (Nat.lt_succ_of_lt (Heap.lt_size z)))).trans (kh b o z)) hl
      ⟨_, ns'.at fun o y => (gk dx n').trans y, relO_put (fs := []) ru fun g => True.intro⟩
  refine ⟨rfl, hp.objs.size + 1, _, _, ⟨G, g, dr, tk', os⟩, _, .ref C, some dx, rfl, J, fun b o z => ?_, ge, e', ⟨rfl, rfl⟩, rfl, rfl, ?_, rfl, I1.bare, raises_own F.exC F.tyC, q1 dx hn⟩
  · by_cases hb : b = hp.objs.size + 1
    · rw [hb, ge] at z
      cases z
    · exact (gk b hb).symm.trans z
  · rw [upd_ne (Ne.symm n')]
    exact ha1
end L2
end

section
set_option Elab.async false
set_option linter.all false
set_option maxRecDepth 100000
set_option maxHeartbeats 4000000
set_option autoImplicit false
/-! RN_X1: defs that may let out Refused. -/
namespace RN
open PySem PySem.Spec L2 PySem.RNX
/-- data in; data out, or Refused -/
def spX {α : Type} (CN CR : Addr) (enc : α → List D) (ok : α → Prop) (post exc : α → D → Prop) : Sp := fun vs H Q E => ∃ (U : Addr → Prop) (z : α), (∀ a, U a → H a ≠ none) ∧ RpL CN U H (enc z) vs ∧ ok z ∧
  (∀ v H' d, Same H H' → Rp CN U H' d v → post z d → Q v H') ∧ ∀ (d : Addr) H' v r, Same H H' → H' d = some (.xd [("reason", v)]) → Rp CN U H' r v → exc z r → E (.ref CR) (some d) H'
section
variable {P : Program} {w : World} {K : PySem.W.Frag} {mg : Str → Option Value} {base : Heap} {CN CR : Addr} {x qual : Str} {params : Arguments} {body : List Stmt} {scope : Scope} {f : Addr} {fd : FuncData} {N ps : List Str} {k : Nat}
theorem fn_X {α : Type} (enc : α → List D) (ok : α → Prop) (post exc : α → D → Prop) (F : FunD K x qual params body scope [] [] f fd) (S : FnScope N ps scope) (hlen : ∀ z, (enc z).length = ps.length)
    (hbody : ∀ (cdv : Value) (A : Around) (outer : List Env) (s : Shared) (H : Hp) (E : XK), Room k (A.deeper (PyProof.Rows.envOfC qual scope s.heap.objs.size f cdv)) → ∀ z, ok z →
      ∃ t, PSs (cxOf (L2.CX P w) P w K mg base N qual scope f cdv A outer s H E) body t ∧ ∀ (U : Addr → Prop) (σ : L2.St) (Q : VK), Stt ⟨CN, U, U, [], 0⟩ σ H (args0 (enc z) N) [] → (∀ v H' d, Same H H' → Rp CN U H' d v → post z d → Q v H') →
        (∀ (d : Addr) H' v r, Same H H' → H' d = some (.xd [("reason", v)]) → Rp CN U H' r v → exc z r → E (.ref CR) (some d) H') → t { nx := fun _ H' => Q .non H', rt := Q } σ H) :
    FnOk P w K mg base (L2.CX P w) (k + 1) f fd ps (spX CN CR enc ok post exc) := by
  refine F.ok S (fun vs H Q E h => ?_) fun cdv A outer s H vs Q E hr h => ?_
  · obtain ⟨U, z, _, r, _⟩ := h
    rw [r.length, hlen z]
  · obtain ⟨U, z, hU, r, p, q, qe⟩ := h
    obtain ⟨t, h1, h2⟩ := hbody cdv A outer s H E hr z p
    have hl : (enc z).length ≤ N.length := by
      have := congrArg List.length S.pre
      rw [List.length_take] at this
      have := hlen z
      omega
    exact ⟨t, h1, h2 U _ Q (start_stt hU r hl) q qe⟩
variable {W : Wd} {ρ : List Sl} {μ : List Cell} {E : XK}
theorem EvP.run {te : TE} {Pd : D → Prop} {σ : L2.St} {H : Hp} {Q : VK} (h : EvP W te ρ μ Pd) (s : Stt W σ H ρ μ) (q : ∀ v H' d, Ch W.A H H' → Stt W σ H' ρ μ → Rp W.CN W.U H' d v → Pd d → Q v H') : te σ H Q := h σ H s Q q
theorem EvA.run {ta : TA} {PA : List D → Prop} {σ : L2.St} {H : Hp} {Q : List V → Hp → Prop} (h : EvA W ta ρ μ PA) (s : Stt W σ H ρ μ) (q : ∀ vs H' ds, Ch W.A H H' → Stt W σ H' ρ μ → RpL W.CN W.U H' ds vs → PA ds → Q vs H') : ta σ H Q := h σ H s Q q
theorem EvB.run {tt : TT} {PB : Bool → Prop} {σ : L2.St} {H : Hp} {Q : Bool → Hp → Prop} (h : EvB W tt ρ μ PB) (s : Stt W σ H ρ μ) (q : ∀ b H', Ch W.A H H' → Stt W σ H' ρ μ → PB b → Q b H') : tt σ H Q := h σ H s Q q
theorem SvP.run1 {ts : TS} {N : List Sl → List Cell → Prop} {σ : L2.St} {H : Hp} {En : Ends} (h : SvP W ts ρ μ N fun _ _ => False) (s : Stt W σ H ρ μ) (q : ∀ σ' H' ρ' μ', Ch W.A H H' → Stt W σ' H' ρ' μ' → N ρ' μ' → En.nx σ' H') : ts En σ H := h σ H En s q fun _ _ _ _ _ _ _ z => z.elim
theorem SvP.seq1 {t1 t2 : TS} {N : List Sl → List Cell → Prop} {σ : L2.St} {H : Hp} {En : Ends} (h : SvP W t1 ρ μ N fun _ _ => False) (s : Stt W σ H ρ μ) (q : ∀ σ' H' ρ' μ', Ch W.A H H' → Stt W σ' H' ρ' μ' → N ρ' μ' → t2 En σ' H') : tSeq t1 t2 En σ H := h σ H _ s q fun _ _ _ _ _ _ _ z => z.elim
theorem EvP.ret {te : TE} {Pd : D → Prop} {σ : L2.St} {H : Hp} {En : Ends} (h : EvP W te ρ μ Pd) (s : Stt W σ H ρ μ) (q : ∀ v H' d, Ch W.A H H' → Stt W σ H' ρ μ → Rp W.CN W.U H' d v → Pd d → En.rt v H') : tRet te En σ H := h σ H s _ q
/-- a call that raises nothing -/
theorem ev_callX {α : Type} {enc : α → List D} {ok : α → Prop} {post exc : α → D → Prop} {CR : Addr} {ta : TA} {P : D → Prop} (z : α) (ha : EvA W ta ρ μ (Is (enc z))) (h1 : ok z) (h2 : ∀ d, post z d → P d) (h3 : ∀ r, ¬ exc z r) : EvP W (tCall (spX W.CN CR enc ok post exc) [] E ta) ρ μ P := fun σ H s Q q =>
  ha σ H s _ fun vs H1 ds e1 s1 r1 p1 => by
    rw [show ds = _ from p1] at r1
    refine ⟨W.U, z, s1.sto.uok, by rw [List.append_nil]; exact r1, h1, fun v H' d e r p => q v H' d (e1.trans (Ch.of e)) (s1.same e) r (h2 d p), fun d H' v r _ _ _ x => absurd x (h3 r)⟩
end
def Looped (z : NetD × List Rg) (r : D) : Prop := ∃ m F, Ring (Lks z.1 z.2) F m ∧ r = .tup [.str "loop", stepsD (stepsOf F m)]
def Fits (z : NetD × List Rg) : Prop := ∃ π, Pot (Lks z.1 z.2) π
theorem fits_not {z : NetD × List Rg} (h : Fits z) (r : D) : ¬ Looped z r := fun ⟨m, F, hr, _⟩ => by
  obtain ⟨π, p⟩ := h
  exact hr.pos p
structure TwoQ.ok (z : FarA) : Prop where
  nr : NR (z.n, z.rs)
  s_ : z.s < z.n.k
  g_ : z.g < z.n.k
  rg : ∀ r ∈ z.rs, rgOk r
abbrev spFit (CN CR : Addr) : Sp := spX (α := NetD × List Rg) CN CR (fun z => [z.1.d, rsD z.2]) NR (fun z d => d = .non ∧ Fits z) Looped
abbrev spTwo (CN CR : Addr) : Sp := spX (α := FarA) CN CR FarA.enc TwoQ.ok (fun z d => d = .non ∧ Fits (z.n, z.rs)) fun z => Looped (z.n, z.rs)
abbrev spMost (CN CR : Addr) : Sp := spX (α := FarA) CN CR FarA.enc TwoQ.ok (fun z d => Fits (z.n, z.rs) ∧ z.post d) fun z => Looped (z.n, z.rs)
abbrev spIsMost (CN CR : Addr) : Sp := spX (α := FarV) CN CR (fun z => z.a.enc ++ [z.v]) (fun z => TwoQ.ok z.a ∧ Fits (z.a.n, z.a.rs) ∧ z.v.vl = true) (fun z d => d = .bl z.res) fun _ _ => False
section
variable {P : Program} {w : World} {K : PySem.W.Frag} {mg : Str → Option Value} {base : Heap} {CN CP CR fI : Addr} {f : Addr} {fd : FuncData} {params : Arguments} {body : List Stmt} {scope : Scope}
theorem ok_require_fitting (B : Bf mg) (RF : RefF P K CR fI params body scope) (RT : RefT params body scope) (g_Refused : mg "Refused" = some (.ref CR)) (g_super : mg "super" = none) (C_heights_or_loop_in : Cal P w K mg base CX0 4 "heights_or_loop_in" ["net", "ranges"] (spHol CN)) (g : mg "require_fitting" = some (.ref f)) (F : FnP K "require_fitting" s_require_fitting f fd) : Cal P w K mg base (L2.CX P w) 5 "require_fitting" ["net", "ranges"] (spFit CN CR) := by
  refine cal_mk g F (fun _ _ _ _ _ _ us hl => match us, hl with | [_, _], _ => rfl) (fn_X _ _ _ _ F sc_require_fitting (fun _ => rfl) fun cdv A outer s H E hr z hz => ?_)
  refine ⟨_, (pss_cons (ps_asg (pe_own C_heights_or_loop_in (hr.mono (by decide)) rfl pass0 (pa_cons (pv 0) (pa_cons (pv 1) pa_nil))) (pg_tup rfl (pgs_cons (pg_name (i := 2) sc_require_fitting.nd rfl (by first | exact Or.inl rfl | exact Or.inr rfl)) (pgs_cons (pg_name (i := 3) sc_require_fitting.nd rfl (by first | exact Or.inl rfl | exact Or.inr rfl)) pgs_nil)))) (pss_one (ps_if (pt_cmpR op_eq (pv 2) (pe_gstr B.c_LOOP) (nomark _)) (pss_one (ps_raise rfl (takes_of rfl rfl rfl rfl) (pmk_ref (k := 3) RF RT hr rfl g_Refused g_super (pa_cons (pe_tup (pa_cons (pe_gstr B.c_LOOP) (pa_cons (pv 3) pa_nil))) pa_nil)))) pss_nil))), fun U σ Q st q qe => ?_⟩
  refine SvP.seq1 (W := ⟨CN, U, U, [], 0⟩) (N := fun ρ' μ' => μ' = [] ∧ ∃ a b, ρ' = [.d z.1.d, .d (rsD z.2), .d a, .d b] ∧ holPost z (.tup [a, b])) (sv_asg (P := holPost z) ?_ fun d hd => ?_) st fun σ1 H1 ρ1 μ1 e1 s1 n1 => ?_
  · exact ev_callN z (ea_cons (ev_var rfl) (ea_cons (ev_var rfl) ea_nil)) hz fun d h => h
  · have : ∃ a b, d = .tup [a, b] := by
      rcases hd with ⟨π, p, x, e⟩ | ⟨m, F', hr', e⟩
      · exact ⟨_, _, e⟩
      · exact ⟨_, _, e⟩
    obtain ⟨a, b, rfl⟩ := this
    refine (gv_tup rfl (gs_cons (gv_name (gs_cons (gv_name (gs_nil ?_))))))
    exact ⟨rfl, a, b, rfl, hd⟩
  · obtain ⟨rfl, a, b, rfl, hp⟩ := n1
    have hab : ∃ wd, a = .str wd ∧ ((wd = "loop" ∧ Looped z (.tup [a, b])) ∨ (wd ≠ "loop" ∧ Fits z)) := by
      rcases hp with ⟨π, p, x, e⟩ | ⟨m, F', hr', e⟩
      · cases e
        exact ⟨_, rfl, .inr ⟨by decide, π, p⟩⟩
      · cases e
        exact ⟨_, rfl, .inl ⟨rfl, m, F', hr', rfl⟩⟩
    obtain ⟨wd, rfl, hcase⟩ := hab
    refine EvB.run (PB := Is (decide (wd = "loop"))) (eb_T ?_) s1 fun bb H2 e2 s2 p2 => ?_
    · exact ev_eqS (ev_var rfl) ev_str
    rw [show bb = _ from p2]
    rcases hcase with ⟨hw, hl⟩ | ⟨hw, hf⟩
    · rw [if_pos (by rw [hw]; rfl)]
      refine EvA.run (PA := Is [.tup [.str "loop", b]]) (ea_cons (ev_tup1 (ea_cons ev_str (ea_cons (ev_var ?_) ea_nil)) (show 2 ≤ 1000 by decide)) ea_nil) s2 fun vs H3 ds e3 s3 r3 p3 => ?_
      · rfl
      rw [show ds = _ from p3] at r3
      obtain ⟨v, r', rfl, rv, rr⟩ := r3
      rw [show r' = [] from rr]
      refine ⟨v, rfl, fun d hd => ?_⟩
      have es : Same H3 (upd H3 d (.xd [("reason", v)])) := same_new hd
      refine qe d _ v _ (fun a o z => es a o (e3 a o (by simp) (e2 a o (by simp) (e1 a o (by simp) z)))) upd_same (rv.kept (Kept.of es)) ?_
      rw [hw] at hl
      exact hl
    · rw [if_neg (by rw [decide_eq_false hw]; exact Bool.false_ne_true)]
      exact q .non H2 .non (fun a o z => e2 a o (by simp) (e1 a o (by simp) z)) rfl ⟨rfl, hf⟩
theorem ok_require_two_knots (B : Bf mg) (C_require_ranges : Cal P w K mg base CX0 4 "require_ranges" ["net", "ranges"] (spReqRanges CN)) (C_require_knot : Cal P w K mg base CX0 4 "require_knot" ["net", "value"] (spReqKnot CN)) (C_require_fitting : Cal P w K mg base (L2.CX P w) 5 "require_fitting" ["net", "ranges"] (spFit CN CR))
    (g : mg "require_two_knots" = some (.ref f)) (F : FnP K "require_two_knots" s_require_two_knots f fd) : Cal P w K mg base (L2.CX P w) 6 "require_two_knots" ["net", "ranges", "start", "goal"] (spTwo CN CR) := by
  refine cal_mk g F (fun _ _ _ _ _ _ us hl => match us, hl with | [_, _, _, _], _ => rfl) (fn_X _ _ _ _ F sc_require_two_knots (fun _ => rfl) fun cdv A outer s H E hr z hz => ?_)
  obtain ⟨n, rs, s0, g0⟩ := z
  obtain ⟨hnr, hs, hg, hrg⟩ := hz
  refine ⟨_, (pss_cons (ps_expr (pe_own C_require_ranges (hr.mono (by decide)) rfl pass0 (pa_cons (pv 0) (pa_cons (pv 1) pa_nil)))) (pss_cons (ps_expr (pe_own C_require_knot (hr.mono (by decide)) rfl pass0 (pa_cons (pv 0) (pa_cons (pv 2) pa_nil)))) (pss_cons (ps_expr (pe_own C_require_knot (hr.mono (by decide)) rfl pass0 (pa_cons (pv 0) (pa_cons (pv 3) pa_nil)))) (pss_one (ps_expr (pe_own C_require_fitting (hr.mono (by decide)) rfl (passes_call (takes_of rfl rfl rfl rfl) fun _ _ _ _ h => h) (pa_cons (pv 0) (pa_cons (pv 1) pa_nil)))))))), fun U σ Q st q qe => ?_⟩
  refine SvP.seq1 (W := ⟨CN, U, U, [], 0⟩) (N := fun ρ' μ' => ρ' = [.d n.d, .d (rsD rs), .d (.int (s0 : Int)), .d (.int (g0 : Int))] ∧ μ' = []) (sv_drop (P := fun _ => True) ?_ ⟨rfl, rfl⟩) st fun σ1 H1 ρ1 μ1 e1 s1 n1 => ?_
  · exact EvP.imp (ev_callG (n, rs) (ea_cons (ev_var rfl) (ea_cons (ev_var rfl) ea_nil)) ⟨hnr, hrg⟩) fun _ _ => trivial
  obtain ⟨rfl, rfl⟩ := n1
  refine SvP.seq1 (W := ⟨CN, U, U, [], 0⟩) (N := fun ρ' μ' => ρ' = [.d n.d, .d (rsD rs), .d (.int (s0 : Int)), .d (.int (g0 : Int))] ∧ μ' = []) (sv_drop (P := fun _ => True) ?_ ⟨rfl, rfl⟩) s1 fun σ2 H2 ρ1 μ1 e2 s2 n1 => ?_
  · exact EvP.imp (ev_callG (n, s0) (ea_cons (ev_var rfl) (ea_cons (ev_var rfl) ea_nil)) hs) fun _ _ => trivial
  obtain ⟨rfl, rfl⟩ := n1
  refine SvP.seq1 (W := ⟨CN, U, U, [], 0⟩) (N := fun ρ' μ' => ρ' = [.d n.d, .d (rsD rs), .d (.int (s0 : Int)), .d (.int (g0 : Int))] ∧ μ' = []) (sv_drop (P := fun _ => True) ?_ ⟨rfl, rfl⟩) s2 fun σ3 H3 ρ1 μ1 e3 s3 n1 => ?_
  · exact EvP.imp (ev_callG (n, g0) (ea_cons (ev_var rfl) (ea_cons (ev_var rfl) ea_nil)) hg) fun _ _ => trivial
  obtain ⟨rfl, rfl⟩ := n1
  refine EvA.run (W := ⟨CN, U, U, [], 0⟩) (PA := Is [n.d, rsD rs]) ?_ s3 fun vs H4 ds e4 s4 r4 p4 => ?_
  · exact ea_cons (ev_var rfl) (ea_cons (ev_var rfl) ea_nil)
  rw [show ds = _ from p4] at r4
  have es : Same H H4 := fun a o z => e4 a o (by simp) (e3 a o (by simp) (e2 a o (by simp) (e1 a o (by simp) z)))
  exact ⟨U, (n, rs), s4.sto.uok, by rw [List.append_nil]; exact r4, hnr, fun v H' d e r p => q .non H' .non (es.trans e) rfl ⟨rfl, p.2⟩, fun d H' v r e => qe d H' v r (es.trans e)⟩
theorem ok_most_apart (B : Bf mg) (C_require_two_knots : Cal P w K mg base (L2.CX P w) 6 "require_two_knots" ["net", "ranges", "start", "goal"] (spTwo CN CR)) (C_farthest_in : Cal P w K mg base CX0 4 "farthest_in" ["net", "ranges", "start", "goal"] (spFarthest CN))
    (g : mg "most_apart" = some (.ref f)) (F : FnP K "most_apart" s_most_apart f fd) : Cal P w K mg base (L2.CX P w) 7 "most_apart" ["net", "ranges", "start", "goal"] (spMost CN CR) := by
  refine cal_mk g F (fun _ _ _ _ _ _ us hl => match us, hl with | [_, _, _, _], _ => rfl) (fn_X _ _ _ _ F sc_most_apart (fun _ => rfl) fun cdv A outer s H E hr z hz => ?_)
  obtain ⟨n, rs, s0, g0⟩ := z
  refine ⟨_, (pss_cons (ps_expr (pe_own C_require_two_knots (hr.mono (by decide)) rfl (passes_call (takes_of rfl rfl rfl rfl) fun _ _ _ _ h => h) (pa_cons (pv 0) (pa_cons (pv 1) (pa_cons (pv 2) (pa_cons (pv 3) pa_nil)))))) (pss_one (ps_ret (pe_own C_farthest_in (hr.mono (by decide)) rfl pass0 (pa_cons (pv 0) (pa_cons (pv 1) (pa_cons (pv 2) (pa_cons (pv 3) pa_nil)))))))), fun U σ Q st q qe => ?_⟩
  refine EvA.run (W := ⟨CN, U, U, [], 0⟩) (PA := Is (FarA.mk n rs s0 g0).enc) ?_ st fun vs H1 ds e1 s1 r1 p1 => ?_
  · exact ea_cons (ev_var rfl) (ea_cons (ev_var rfl) (ea_cons (ev_var rfl) (ea_cons (ev_var rfl) ea_nil)))
  rw [show ds = _ from p1] at r1
  have es : Same H H1 := fun a o z => e1 a o (by simp) z
  refine ⟨U, ⟨n, rs, s0, g0⟩, s1.sto.uok, by rw [List.append_nil]; exact r1, hz, fun v H2 d e2 r2 p2 => ?_, fun d H' v r e => qe d H' v r (es.trans e)⟩
  have hf := p2.2
  show tRet (tCall (spFarthest CN) [] E0 (tCons (tVar 0) (tCons (tVar 1) (tCons (tVar 2) (tCons (tVar 3) tNil))))) { nx := fun _ H' => Q V.non H', rt := Q } σ H2
  refine EvP.ret (W := ⟨CN, U, U, [], 0⟩) (Pd := (FarA.mk n rs s0 g0).post) ?_ (s1.same e2) fun v H3 d e3 s3 r3 p3 => ?_
  · exact ev_callN (FarA.mk n rs s0 g0) (ea_cons (ev_var rfl) (ea_cons (ev_var rfl) (ea_cons (ev_var rfl) (ea_cons (ev_var rfl) ea_nil)))) ⟨hz.nr, hz.s_, hz.g_, hf⟩ fun d h => h
  exact q v H3 d (fun a o z => e3 a o (by simp) (e2 a o (es a o z))) r3 ⟨hf, p3⟩
theorem ok_is_most_apart (B : Bf mg) (C_require_two_knots : Cal P w K mg base (L2.CX P w) 6 "require_two_knots" ["net", "ranges", "start", "goal"] (spTwo CN CR)) (C_is_farthest_in : Cal P w K mg base CX0 6 "is_farthest_in" ["net", "ranges", "start", "goal", "value"] (spIsFar CN))
    (g : mg "is_most_apart" = some (.ref f)) (F : FnP K "is_most_apart" s_is_most_apart f fd) : Cal P w K mg base (L2.CX P w) 7 "is_most_apart" ["net", "ranges", "start", "goal", "value"] (spIsMost CN CR) := by
  refine cal_mk g F (fun _ _ _ _ _ _ us hl => match us, hl with | [_, _, _, _, _], _ => rfl) (fn_X _ _ _ _ F sc_is_most_apart (fun _ => rfl) fun cdv A outer s H E hr z hz => ?_)
  obtain ⟨⟨n, rs, s0, g0⟩, v⟩ := z
  obtain ⟨hz, hf, hv⟩ := hz
  refine ⟨_, (pss_cons (ps_expr (pe_own C_require_two_knots (hr.mono (by decide)) rfl (passes_call (takes_of rfl rfl rfl rfl) fun _ _ _ _ h => h) (pa_cons (pv 0) (pa_cons (pv 1) (pa_cons (pv 2) (pa_cons (pv 3) pa_nil)))))) (pss_one (ps_ret (pe_own C_is_farthest_in (hr.mono (by decide)) rfl pass0 (pa_cons (pv 0) (pa_cons (pv 1) (pa_cons (pv 2) (pa_cons (pv 3) (pa_cons (pv 4) pa_nil))))))))), fun U σ Q st q qe => ?_⟩
  refine EvP.run (W := ⟨CN, U, U, [], 0⟩) (Pd := fun _ => True) ?_ st fun v1 H1 d1 e1 s1 r1 p1 => ?_
  · exact ev_callX (FarA.mk n rs s0 g0) (ea_cons (ev_var rfl) (ea_cons (ev_var rfl) (ea_cons (ev_var rfl) (ea_cons (ev_var rfl) ea_nil)))) hz (fun _ _ => trivial) (fits_not hf)
  show tRet (tCall (spIsFar CN) [] E0 (tCons (tVar 0) (tCons (tVar 1) (tCons (tVar 2) (tCons (tVar 3) (tCons (tVar 4) tNil)))))) { nx := fun _ H' => Q V.non H', rt := Q } σ H1
  refine EvP.ret (W := ⟨CN, U, U, [], 0⟩) (Pd := Is (.bl (FarV.mk ⟨n, rs, s0, g0⟩ v).res)) ?_ s1 fun v H3 d e3 s3 r3 p3 => ?_
  · exact ev_callG (FarV.mk ⟨n, rs, s0, g0⟩ v) (ea_cons (ev_var rfl) (ea_cons (ev_var rfl) (ea_cons (ev_var rfl) (ea_cons (ev_var rfl) (ea_cons (ev_var rfl) ea_nil))))) ⟨⟨hz.nr, hz.s_, hz.g_, hf⟩, hv⟩
  exact q v H3 d (fun a o z => e3 a o (by simp) (e1 a o (by simp) z)) r3 p3
end
end RN
end

section
set_option Elab.async false
set_option linter.all false
set_option maxRecDepth 100000
set_option maxHeartbeats 4000000
set_option autoImplicit false
/-! RN_P3: the two stairs. -/
namespace RN
open PySem PySem.Spec L2
def stR : Ri := .cor true [(0, -1), (0, 1), (1, 1), (1, 2), (2, 2), (2, 3)]
def exN : NetD := ⟨3, [⟨0, 1, stR⟩, ⟨1, 2, stR⟩]⟩
def exR : List Rg := [(some 1, some 3), (some 0, none)]
theorem exN_ok : exN.ok := ⟨by decide, by decide, by decide, by decide⟩
theorem exLs : Lks exN exR = [⟨0, 1, -1, 0, 1⟩, ⟨1, 0, 3, 0, -1⟩, ⟨1, 2, 0, 1, 1⟩] := rfl
theorem exQ {s g : Nat} (hs : s < 3) (hg : g < 3) : TwoQ.ok ⟨exN, exR, s, g⟩ := ⟨⟨exN_ok, rfl⟩, hs, hg, fun r hr => by
  rcases List.mem_cons.mp hr with rfl | hr
  · exact ⟨fun lo h => (by cases h; decide), fun hi h => (by cases h; decide), fun lo hi h1 h2 => (by cases h1; cases h2; decide)⟩
  · rw [List.mem_singleton.mp hr]
    exact ⟨fun lo h => (by cases h; decide), fun hi h => (nomatch h), fun lo hi h1 h2 => (nomatch h2)⟩⟩
def exPi : Nat → Int := fun v => if v = 0 then 0 else -1
theorem exPot : Pot (Lks exN exR) exPi := by
  rw [exLs]
  intro e he
  rcases List.mem_cons.mp he with rfl | he
  · decide
  · rcases List.mem_cons.mp he with rfl | he
    · decide
    · rw [List.mem_singleton.mp he]
      decide
theorem exFits : Fits (exN, exR) := ⟨exPi, exPot⟩
theorem ex02f : fwAll 3 (Lks exN exR) 0 2 = some (-1) := by
  rw [exLs]
  decide +kernel
theorem ex2f (g : Nat) (hg : g < 3) : fwAll 3 (Lks exN exR) 2 g = if g = 2 then some 0 else none := by
  rw [exLs]
  match g, hg with
  | 0, _ => decide +kernel
  | 1, _ => decide +kernel
  | 2, _ => decide +kernel
theorem ex02 {d : D} (h : FarA.post ⟨exN, exR, 0, 2⟩ d) : d = .tup [.str "most", .int (-1), stepsD [(0, 1), (1, 1)]] := by
  obtain ⟨far, ah, ap, h⟩ := h
  have e : fwAll 3 (Lks exN exR) 0 2 = far 2 := apart_fw (lks_ok exN_ok) ap (by decide) exPot
  rw [ex02f] at e
  rcases h with ⟨h1, _⟩ | ⟨x, st, h1, rfl, _, h3⟩
  · have h1' : far 2 = none := h1
    rw [← e] at h1'
    cases h1'
  · have h1' : far 2 = some x := h1
    rw [← e] at h1'
    cases h1'
    obtain ⟨m, F, hm, w, rfl⟩ := h3 (by decide)
    have lk : ∀ j, j < m → F j = ⟨0, 1, -1, 0, 1⟩ ∨ F j = ⟨1, 0, 3, 0, -1⟩ ∨ F j = ⟨1, 2, 0, 1, 1⟩ := fun j hj => by
      have := w.mem j hj
      rw [show Lks (FarA.mk exN exR 0 2).n (FarA.mk exN exR 0 2).rs = _ from exLs] at this
      simpa using this
    have f0 : (F 0).a = 0 := w.fst hm
    have e0 : F 0 = ⟨0, 1, -1, 0, 1⟩ := by
      rcases lk 0 hm with h | h | h
      · exact h
      · rw [h] at f0; cases f0
      · rw [h] at f0; cases f0
    have last : (F (m - 1)).b = 2 := w.lst hm
    have m2 : 2 ≤ m := by
      by_cases h : m = 1
      · subst h
        rw [show (1 : Nat) - 1 = 0 from rfl, e0] at last
        cases last
      · omega
    have f1 : (F 1).a = 1 := by rw [← w.link 0 m2, e0]
    have nz : ∀ j, 1 ≤ j → j < m → (F j).a ≠ 0 := fun j h1 h2 h => by
      have := w.inj j 0 h2 hm (by rw [h, f0])
      omega
    have e1 : F 1 = ⟨1, 2, 0, 1, 1⟩ := by
      rcases lk 1 m2 with h | h | h
      · rw [h] at f1; cases f1
      · exfalso
        by_cases h3 : 3 ≤ m
        · have := w.link 1 h3
          rw [h] at this
          exact nz 2 (by decide) h3 this.symm
        · have : m = 2 := by omega
          subst this
          rw [show (2 : Nat) - 1 = 1 from rfl, h] at last
          cases last
      · exact h
    have hm2 : m = 2 := by
      by_cases h3 : 3 ≤ m
      · have := w.link 1 h3
        rw [e1] at this
        exact absurd this.symm (w.fresh 2 h3)
      · omega
    subst hm2
    show D.tup [.str "most", .int (-1), stepsD [((F 0).w, (F 0).y), ((F 1).w, (F 1).y)]] = _
    rw [e0, e1]
theorem ex20 {d : D} (h : FarA.post ⟨exN, exR, 2, 0⟩ d) : d = .tup [.str "endless", .tup [.int 0, .int 1]] := by
  obtain ⟨far, ah, ap, h⟩ := h
  have e : ∀ g, g < 3 → far g = if g = 2 then some 0 else none := fun g hg => by
    rw [← ex2f g hg]
    exact (apart_fw (lks_ok exN_ok) ap (by decide) exPot).symm
  rcases h with ⟨_, rfl⟩ | ⟨x, st, h1, _⟩
  · show D.tup [.str "endless", lotD (lotOf 3 far)] = _
    have : lotOf 3 far = [0, 1] := by
      show [0, 1, 2].filter (fun v => (far v).isNone) = _
      rw [List.filter_cons, List.filter_cons, List.filter_cons, e 0 (by decide), e 1 (by decide), e 2 (by decide)]
      rfl
    rw [this]
    rfl
  · have h1' : far 0 = some x := h1
    rw [e 0 (by decide)] at h1'
    cases h1'
theorem exFar1 : FarV.res ⟨⟨exN, exR, 1, 0⟩, .tup [.str "most", .int 3, .tup [.tup [.int 0, .int (-1)]]]⟩ = true := by decide +kernel
theorem exFar2 : FarV.res ⟨⟨exN, exR, 0, 0⟩, .tup [.str "most", .int 0, .tup []]⟩ = true := by decide +kernel
theorem exFar3 : FarV.res ⟨⟨exN, exR, 2, 0⟩, .tup [.str "endless", .tup [.int 0]]⟩ = false := by decide +kernel
end RN
end

section
set_option Elab.async false
set_option linter.all false
set_option maxRecDepth 100000
set_option maxHeartbeats 4000000
set_option autoImplicit false
/-! RN_X2: _law_met, which calls what it got. -/
namespace RN
open PySem PySem.Spec L2 PySem.RNX LamX
/-- the pair that is told, or the pair of what was refused -/
def TTmet (CR : Addr) : (XK → Hp → VK → Prop) → Hp → VK → Prop := fun tl H Q =>
  tl (fun cls d H' => cls = .ref CR ∧ ∃ (dd : Addr) (v : V), d = some dd ∧ H' dd = some (.xd [("reason", v)]) ∧ ∀ p, H' p = none → Q (.ref p) (upd H' p (.tup [.str "refused", v]))) H fun v H1 => ([.str "told", v] : List V).length ≤ sizeLine ∧ ∀ p, H1 p = none → Q (.ref p) (upd H1 p (.tup [.str "told", v]))
theorem takes_len {X : Cx} {W : WX} (tk : Takes X W) : Takes X fun cls d σ H => σ.length = X.N.length → W cls d σ H := fun u s' x => by
  obtain ⟨a, B, sI, pins, σ, H, cls, d, e, I, k, up, sky, na, os, ab, hw⟩ := x
  exact tk u s' ⟨a, B, sI, pins, σ, H, cls, d, e, I, k, up, sky, na, os, ab, hw I.len⟩
theorem met_gives {X : Cx} {g CR fI : Addr} {cdg : Value} {q : Str} {params : Arguments} {body : List Stmt} {scope : Scope} (RF : RefF X.prog X.K CR fI params body scope) (hme : X.mg "Refused" = some (.ref CR)) :
    GivesTo X n_law_met "_law_met" (defScope s_law_met) g cdg (defBody s_law_met) "_law_call" q (TTmet CR) := by
  intro f c' s H Q tl act hc h
  have hgl : Gl (cxOf C8.CX0 X.prog X.w X.K X.mg X.base n_law_met "_law_met" (defScope s_law_met) g cdg X.A X.stack s H C8.E0).nox "Refused" := rfl
  refine ⟨_, pss_one (ps_try_as (X := (cxOf C8.CX0 X.prog X.w X.K X.mg X.base n_law_met "_law_met" (defScope s_law_met) g cdg X.A X.stack s H C8.E0).nox) (c := .ref CR) (i := 1)
      (tb := fun W D σ H => ∃ Ech : XK, (∀ cls d σ' H', Ech cls d H' → σ'.length = 2 → W cls d σ' H') ∧ σ[0]? = some (some (.ref f)) ∧ H c' = some (CodeO c' q) ∧ tl Ech H fun v H1 => ([.str "told", v] : List V).length ≤ sizeLine ∧ ∀ p, H1 p = none → D.rt (.ref p) (upd H1 p (.tup [.str "told", v])))
      (ts := fun a cls d => tRet (tTup (tCons (tC (.str "refused")) (tCons (tXf a cls d CR "reason" (tVar 1)) tNil)))) (Wout := fun _ _ _ _ => False)
      rfl rfl sc_law_met.nd rfl rfl ⟨hgl, by decide, .inl hme⟩ takes0 (fun W pn xe tk _ => ?_) (fun a oe cls d pn hz hf => pss_one (ps_ret (pe_tup (pa_cons pe_str (pa_cons (pe_xf ⟨RF.ga, RF.gg, RF.exC, RF.hd⟩ RF.no hz hf (pv 1)) pa_nil)))))), ?_⟩
  · refine ⟨fun pins s' σ H' D I h' => ?_⟩
    obtain ⟨Ech, hW, h1, h2, h3⟩ := h'
    refine PSs.run (pss_one (ps_ret (pe_tup (pa_cons pe_str (pa_cons (act (fun cls d σ H => σ.length = 2 → W cls d σ H) pn xe Ech _ _ (takes_len tk) hW) pa_nil))))) pins s' σ H' D I ?_
    exact ⟨h1, h2, h3⟩
  · refine ⟨fun cls d H' => cls = .ref CR ∧ ∃ (dd : Addr) (v : V), d = some dd ∧ H' dd = some (.xd [("reason", v)]) ∧ ∀ p, H' p = none → Q (.ref p) (upd H' p (.tup [.str "refused", v])), fun cls d σ' H' hE hl => ?_, rfl, hc, h⟩
    obtain ⟨rfl, dd, v, rfl, hx, hq⟩ := hE
    refine ⟨true, RF.te, fun _ a ha => ?_, fun z => nomatch z⟩
    have hs : (σ'.set 1 (some (V.ref a)))[1]? = some (some (V.ref a)) := List.getElem?_set_self (by omega)
    exact ⟨_, hs, rfl, rfl, dd, _, v, rfl, hx, rfl, by rw [sizeLine_eq]; exact Nat.le_of_ble_eq_true rfl, hq⟩
end RN
end

section
set_option Elab.async false
set_option linter.all false
set_option maxRecDepth 100000
set_option maxHeartbeats 4000000
set_option autoImplicit false
/-! RN_X3: a lambda handed over, all but its own table kept; a net made; dict.get; the rules of a def with a table. -/
namespace L2
open PySem PySem.Spec PyProof.Rows LamX
/-- the table ps grew in H1: what it tells was told, or is new -/
def TabN (H H1 : Hp) (P : Addr) (q : Str) (ps : Array Value) : Prop := ∃ qs : Array Value, H1 P = some (.tbl qs) ∧ TriplesOk qs.toList ∧ ∀ (pos : Pos) (cv : Value), codeAmong pos qs.toList = some cv → ∃ c, cv = .ref c ∧ H1 c = some (CodeO c q) ∧ ((∃ p', codeAmong p' ps.toList = some cv) ∨ H c = none)
section
variable {X : Cx} {pins : List (Addr × Obj)} {σ : L2.St} {H : Hp} {s : Shared}
theorem lam_mk3 {c P : Addr} {params : Arguments} {body : Expr} {scope : Scope} {pos : Pos} {E : Value → Shared → Prop} {Q : Value → Shared → Prop} {ps : Array Value} (I : Inv X pins σ H s) (TB : TabB X.base X.mg c P) (hcode : X.env.code = .ref c) (hP : H P = some (.tbl ps)) (ht : TriplesOk ps.toList)
    (ha : ∀ (pos : Pos) (cv : Value), codeAmong pos ps.toList = some cv → ∃ c, cv = .ref c ∧ H c = some (CodeO c (X.env.qual ++ "<lambda>"))) (hdef : defaultsOf params X.env = ([], [])) (hfree : ∀ y ∈ scope.names, y.2 = .free → ∃ c, X.env.cells.lookup y.1 = some c)
    (h : ∀ (f c' : Addr) (pm ctv : Value) (H1 : Hp) (s' : Shared), Inv X pins σ H1 s' → (∀ b o, b ≠ P → H b = some o → H1 b = some o) → TabN H H1 P (X.env.qual ++ "<lambda>") ps →
      s'.heap.get? f = some (PySem.W.kla_obj "<lambda>" (X.env.qual ++ "<lambda>") params body scope (cloFrom X.env.cells scope.names []) pm c' ctv) → H1 f = none → f ∉ frs X.stack → H1 c' = some (CodeO c' (X.env.qual ++ "<lambda>")) → Q (.ref f) s') :
    wpAny (model X.prog X.w) X.A (eval (.Lambda params body scope pos) X.env) Q E s := by
  refine PySem.W.kla_eval hdef ?_
  have hB := TB.bm.keeps I.bk
  have heP : s.heap.get? P = some { cls := .none, data := .fields ps } := I.hok P _ hP
  have out : ∀ f, s.heap.objs.size ≤ f → f ∉ frs X.stack := fun f hf z => (List.mem_cons.mp (I.stkSub _ z)).elim (fun e => absurd (Nat.lt_of_lt_of_le (e ▸ I.lt) hf) (Nat.lt_irrefl _)) fun e => I.nofs hf e
  cases hc : codeAmong pos ps.toList with
  | some cv =>
    obtain ⟨c', rfl, hco⟩ := ha pos cv hc
    refine PySem.W.kla_makeFunctionHit (mg := X.mg) (c := c) (P := P) (ps := ps) (closure_ok hfree) I.ok.glob (I.mod.glob.keeps I.bk) hcode (TB.code.keeps I.bk) heP ht hc hB fun ctv h' tk hx hsz => ?_
    refine h h'.objs.size c' ((X.mg "__name__").getD .none) ctv H _ (I.kept fun b o e => Heap.get?_push_of_some _ (hx b o e)) (fun _ _ _ e => e) ⟨ps, hP, ht, fun p cv z => ?_⟩ (Heap.get?_push_size _ rfl) (I.hok.fresh hsz) (out _ hsz) hco
    obtain ⟨c0, e1, e2⟩ := ha p cv z
    exact ⟨c0, e1, e2, .inl ⟨p, z⟩⟩
  | none =>
    refine PySem.W.kla_makeFunction (mg := X.mg) (c := c) (P := P) (ps := ps) (closure_ok hfree) I.ok.glob (I.mod.glob.keeps I.bk) hcode (TB.code.keeps I.bk) heP ht hc TB.gP hB fun c' ctv h' tk hx hge hlt hrec htb => ?_
    obtain ⟨c2, oc, vs, t, e2, hoc, hd, hv⟩ := hrec
    cases e2
    have hsz : s.heap.objs.size ≤ h'.objs.size := Nat.le_trans hge (Nat.le_of_lt hlt)
    have nC : H c' = none := I.hok.fresh hge
    have I1 := inv_table (t' := tk) (more := #[rawInt pos.line, rawInt pos.col, .ref c']) (h' := h'.push (PySem.W.kla_obj "<lambda>" (X.env.qual ++ "<lambda>") params body scope (cloFrom X.env.cells scope.names []) ((X.mg "__name__").getD .none) c' ctv)) I hP
      (fun b o hb e => Heap.get?_push_of_some _ (hx b o hb e)) (Heap.get?_push_of_some _ htb) hge ⟨oc, vs, t, Heap.get?_push_of_some _ hoc, hd, hv⟩
    have kE : ∀ b o, b ≠ P → H b = some o → upd (upd H P (.tbl (ps ++ #[rawInt pos.line, rawInt pos.col, .ref c']))) c' (CodeO c' (X.env.qual ++ "<lambda>")) b = some o := fun b o nb e => by
      rw [upd_ne (ne_of_none e nC), upd_ne nb]
      exact e
    have eL : (ps ++ #[rawInt pos.line, rawInt pos.col, .ref c']).toList = ps.toList ++ [rawInt pos.line, rawInt pos.col, .ref c'] := by simp
    refine h h'.objs.size c' ((X.mg "__name__").getD .none) ctv _ _ I1 kE ⟨_, by rw [upd_ne (ne_of_none hP nC), upd_same], by rw [eL]; exact PySem.TriplesOk_snoc _ _ _ _ ht, fun p cv z => ?_⟩ (Heap.get?_push_size _ rfl) ?_ (out _ hsz) upd_same
    · rw [eL] at z
      rcases among_app _ ht z with z | z
      · obtain ⟨c0, e1, e2⟩ := ha p cv z
        exact ⟨c0, e1, kE _ _ (fun y => by rw [y, hP] at e2; exact codeO_ne ps (Option.some.inj e2).symm) e2, .inl ⟨p, z⟩⟩
      · exact ⟨c', z, upd_same, .inr nC⟩
    · rw [upd_ne (Nat.ne_of_gt hlt), upd_ne (Nat.ne_of_gt (Nat.lt_of_lt_of_le (Heap.lt_size heP) hsz))]
      exact I.hok.fresh hsz
/-- x(lambda: ..), the table at P -/
def tLamP (P : Addr) (q : Str) (TT : (XK → Hp → VK → Prop) → Hp → VK → Prop) (t : XK → TE) : TE := fun σ H Q => ∃ ps : Array Value, H P = some (.tbl ps) ∧ TriplesOk ps.toList ∧ (∀ (pos : Pos) (cv : Value), codeAmong pos ps.toList = some cv → ∃ c, cv = .ref c ∧ H c = some (CodeO c q)) ∧
  ∀ H1, (∀ b o, b ≠ P → H b = some o → H1 b = some o) → TabN H H1 P q ps → TT (fun E H' Q' => t E σ H' Q') H1 Q
theorem pe_lamP {TT : (XK → Hp → VK → Prop) → Hp → VK → Prop} {x a : Str} {g c P : Addr} {k : Nat} {pg : Arguments} {bg : List Stmt} {sg : Scope} {fdg : FuncData} {Ng : List Str}
    {params : Arguments} {body : Expr} {scope : Scope} {t : XK → TE} {p lpos pos : Pos} (hg : Gl X x) (hm : X.mg x = some (.ref g)) (FG : FunD X.K x x pg bg sg [] [] g fdg) (Sg : FnScope Ng [a] sg) (hNg : Ng[0]? = some a) (hva : Vis sg a)
    (hbg : ∀ (kV doc pm : Value) (an : Option Addr) (cdv ct : Value) (us : List Value), us.length = 1 → bindArgs (PySem.W.fnOf x x pg bg sg .none kV doc pm an cdv ct) ⟨us, []⟩ = pure (([a] : List Str).zip us))
    (hG : ∀ cdv, GivesTo X Ng x sg g cdv bg a (X.env.qual ++ "<lambda>") TT)
    (TB : TabB X.base X.mg c P) (hcode : X.env.code = .ref c) (hr : Room (k + 2) X.A) (L : LamS X.env.scope scope) (hdef : defaultsOf params X.env = ([], []))
    (hbind : ∀ (q : Str) (cl : List (Str × Addr)) (pm cv ctv : Value), bindArgs (PySem.W.kla_fn "<lambda>" q params body scope cl pm cv ctv) ⟨[], []⟩ = pure [])
    (hbody : ∀ (A : Around) (outer : List Env) (s : Shared) (H : Hp) (E : XK) (f c' : Addr), Room k (A.deeper (lamEnv X scope s.heap.objs.size f c')) → PE (lamCx X A outer s H E scope f c') body (t E))
    (hdb : (x == ("__debug__" : Str)) = false := by decide) (hd : (a == ("__debug__" : Str)) = false := by decide) (hcd : (a == ("__classdict__" : Str)) = false := by decide) :
    PE X (.Call (.Name x p) [.Lambda params body scope lpos] [] pos) (tLamP P (X.env.qual ++ "<lambda>") TT t) := by
  refine ⟨fun pins s σ H Q I h => ?_⟩
  obtain ⟨ps, hP, ht, ha, h⟩ := h
  have hbb := FG.bindsN (ps := [a]) hbg
  obtain ⟨oc, od, dV, kV, doc, pm, an, cdv, ct, osl, rfl, lk, hcg, _, _⟩ := FG.ex
  refine wpAny_Call_Name_kw (ld_glob I hg hm ?_ hdb)
  refine PySem.W.callWith_K (h₀ := X.base) I.ok.mod.kin FG.kp ?_ (by rfl) (by rfl)
  show wpAny _ _ (spliced ((false, eval (.Lambda params body scope lpos) X.env) :: backTo pos (starEach [] X.env))) _ _ s
  refine Calls.spliced_cons (lam_mk3 I TB hcode hP ht ha hdef (L.has I.ok) fun f c' pm' ctv H1 s' I1 eN T1 hf hfn hfr hco => ?_)
  refine Calls.spliced_nil ⟨I1.kIn, ?_⟩
  have rc : codeAny (model X.prog X.w) X.A (.call (.ref g) ⟨[.ref f], []⟩) (CR C8.CX0 X.stack X.prog X.w H1 s' Q C8.E0) s' := by
    refine run_ofS (N := Ng) (ps := [a]) (us := [.ref f]) (vs := [.ref f]) lk hcg Sg hr I1.env0 (hbb s' [.ref f] I1.kIn rfl) (.cons rfl .nil) rfl fun hr' => ?_
    obtain ⟨t', ht', hq'⟩ := hG cdv f c' s' H1 Q (fun E H' Q' => t E σ H' Q') (fun W pn xe E p1 p2 tk hW => pe_act (i := 0) I1 L hf hfn hfr (hbind _ _ _ _ _) tk hW hr' (fun A outer s H hr2 => hbody A outer s H E f c' hr2) hNg hva hd hcd) hco (h H1 eN T1)
    exact ⟨t', ht'.nox, hq'⟩
  refine wpAny_call (codeAny_mono rc fun r s2 hq => ?_)
  match r, hq with
  | .error e, hq => exact (show False from hq).elim
  | .ok (.ret u), hq => exact I1.after hq
  | .ok .next, hq => exact False.elim hq
  | .ok .brk, hq => exact False.elim hq
  | .ok .cont, hq => exact False.elim hq
end
end L2
end

section
set_option Elab.async false
set_option linter.all false
set_option maxRecDepth 100000
set_option maxHeartbeats 4000000
set_option autoImplicit false
/-! RN_X4: what those calls give; the promise of _law_right. -/
namespace RN
open PySem PySem.Spec L2 PySem.RNX LamX
section
variable {W : Wd} {ρ : List Sl} {μ : List Cell} {E : XK} {K : PySem.W.Frag}
def MetP (z : FarA) (d : D) : Prop := (∃ r, d = .tup [.str "told", r] ∧ Fits (z.n, z.rs) ∧ z.post r) ∨ ∃ r, d = .tup [.str "refused", r] ∧ Looped (z.n, z.rs) r
/-- the table at its place may have grown -/
theorem Stt.tab {σ : L2.St} {H H1 : Hp} {jt : Nat} {PT : Addr} {q : Str} {ps : Array Value} (s : Stt W σ H ρ μ) (hA : W.A[jt]? = some PT) (hm : μ[jt]? = some (.tab q)) (kE : ∀ b o, b ≠ PT → H b = some o → H1 b = some o)
    (hold : ∀ (pos : Pos) (cv : Value), codeAmong pos ps.toList = some cv → ∃ c, cv = .ref c ∧ ¬ W.U c ∧ H c = some (CodeO c q)) (tn : TabN H H1 PT q ps) : Stt W σ H1 ρ μ := by
  have hPU : W.U PT := s.sto.sub PT (List.mem_of_getElem? hA)
  have kept : Kept W.U H H1 := fun a o nU e => kE a o (fun z => nU (z ▸ hPU)) e
  refine s.kept kept ⟨fun j c h => ?_, fun a hu z => ?_, s.sto.vsub, s.sto.sub, s.sto.nd, s.sto.len, s.sto.n0⟩
  · obtain ⟨a, h1, h2⟩ := s.sto.cell j c h
    refine ⟨a, h1, ?_⟩
    by_cases hj : a = PT
    · subst hj
      have : j = jt := nd_ixA s.sto.nd h1 hA
      subst this
      rw [hm] at h
      cases h
      obtain ⟨qs, e1, e2, e3⟩ := tn
      refine ⟨qs, e1, e2, fun pos cv z => ?_⟩
      obtain ⟨c, r1, r2, r3⟩ := e3 pos cv z
      refine ⟨c, r1, fun hu => ?_, r2⟩
      rcases r3 with ⟨p', z'⟩ | z'
      · obtain ⟨c0, y1, y2, _⟩ := hold p' cv z'
        rw [r1] at y1
        cases y1
        exact y2 hu
      · exact s.sto.uok c hu z'
    · exact h2.stay kept fun o e => kE a o hj e
  · by_cases hj : a = PT
    · obtain ⟨qs, e1, _⟩ := tn
      rw [hj, e1] at z
      cases z
    · cases e : H a with
      | none => exact s.sto.uok a hu e
      | some o =>
        rw [kE a o hj e] at z
        cases z
theorem ev_met {jt : Nat} {PT CR : Addr} {q : Str} {ta : TA} (z : FarA) (hA : W.A[jt]? = some PT) (hm : μ[jt]? = some (.tab q)) (ha : EvA W ta ρ μ (Is z.enc)) (hz : TwoQ.ok z) :
    EvP W (tLamP PT q (TTmet CR) fun E => tCall (spMost W.CN CR) [] E ta) ρ μ (MetP z) := fun σ H s Q qq => by
  obtain ⟨a, ha', ps, hP, ht, hc⟩ := s.sto.cell jt _ hm
  rw [hA] at ha'
  cases ha'
  refine ⟨ps, hP, ht, fun pos cv y => ?_, fun H1 kE tn => ?_⟩
  · obtain ⟨c, e1, _, e3⟩ := hc pos cv y
    exact ⟨c, e1, e3⟩
  have s1 := s.tab hA hm kE hc tn
  have ch : Ch W.A H H1 := fun a o nA e => kE a o (fun y => nA (y ▸ List.mem_of_getElem? hA)) e
  refine ha σ H1 s1 _ fun vs H2 ds e2 s2 r2 p2 => ?_
  rw [show ds = _ from p2] at r2
  have pair : ∀ {H' : Hp} {v : V} {r : D} {w : Str} {p : Addr}, Same H2 H' → Rp W.CN W.U H' r v → H' p = none → MetP z (.tup [.str w, r]) → Q (.ref p) (upd H' p (.tup [.str w, v])) := fun {H' v r w p} e rv hp hd => by
    have es := same_new (o := HO.tup [.str w, v]) hp
    have st := (s2.same e).same es
    exact qq (.ref p) _ (.tup [.str w, r]) ((ch.trans e2).trans (Ch.of (e.trans es))) st ⟨p, _, rfl, Stt.notU (s2.same e).sto hp, upd_same, .str w, [v], rfl, rfl, v, [], rfl, rv.kept (Kept.of es), rfl⟩ hd
  refine ⟨W.U, z, s2.sto.uok, by rw [List.append_nil]; exact r2, hz, fun v H' d e r p => ⟨by rw [sizeLine_eq]; exact Nat.le_of_ble_eq_true rfl, fun p' hp' => pair e r hp' (.inl ⟨d, rfl, p⟩)⟩, fun d H' v r e hx rv hl => ⟨rfl, d, v, rfl, hx, fun p' hp' => pair e rv hp' (.inr ⟨r, rfl, hl⟩)⟩⟩
/-- Net(k, wires) -/
theorem ev_net {ta : TA} (n : NetD) (ha : EvA W ta ρ μ (Is [.int (n.k : Int), wsD n.ws])) (hn : n.ok) : EvP W (tMake W.CN (spInit W.CN) [] E ta) ρ μ (Is n.d) := fun σ H s Q qq => by
  refine ha σ H s _ fun vs H1 ds e1 s1 r1 p1 x dx hx hd hne => ?_
  rw [show ds = _ from p1] at r1
  have nx : ∀ {b : Addr}, W.U b → b ≠ x ∧ b ≠ dx := fun {b} hu => ⟨fun z => s1.sto.uok b hu (z ▸ hx), fun z => s1.sto.uok b hu (z ▸ hd)⟩
  have hd2 : upd H1 dx (.own x) x = none := by rw [upd_ne (Ne.symm hne)]; exact hx
  have es : Same H1 (upd (upd H1 dx (.own x)) x (.ins W.CN dx [])) := (same_new hd).trans (same_new hd2)
  rw [List.append_nil]
  refine ⟨W.U, n, x, dx, vs, rfl, hne, upd_same, ?_, fun z => (nx z).1 rfl, fun z => (nx z).2 rfl, fun a hu => ?_, ?_, hn, fun H' k r => ⟨rfl, ?_⟩⟩
  · rw [upd_ne hne, upd_same]
    intro z
    cases z
  · rw [upd_ne (nx hu).1, upd_ne (nx hu).2]
    exact s1.sto.uok a hu
  · refine RpL.kept (Kept.of es) (RpL.upto (fun a hu => ?_) r1)
    rcases hu with hu | rfl | rfl
    · exact .inl hu
    · exact .inr hx
    · exact .inr hd
  · have e2 : Same H1 H' := fun a o e => k a o (ne_of_none e hx) (ne_of_none e hd) (es a o e)
    exact qq (.ref x) H' n.d (e1.trans (Ch.of e2)) (s1.same e2) r rfl
theorem ev_dget2T {td ty tx : TE} {c : Nat} {f : Nat → Nat → Option Int} {i j : Nat} (hd : EvP W td ρ μ (Is (.dt c f))) (hk : EvP W ty ρ μ (Is (.tup [.int (i : Int), .int (j : Int)]))) (hx : EvP W tx ρ μ (Is .non)) : EvP W (tDGet2 td ty tx) ρ μ (Is (oD (f i j))) := fun σ H s Q q =>
  hd σ H s _ fun v H1 d e1 s1 r1 p1 => by
    rw [show d = .dt c f from p1] at r1
    obtain ⟨a, kvs, rfl, n, ek, hdt⟩ := id r1
    refine ⟨a, rfl, .inr ⟨kvs, Rd.of ek⟩, hk σ H1 s1 _ fun v2 H2 d2 e2 s2 r2 p2 => hx σ H2 s2 _ fun v3 H3 d3 e3 s3 r3 p3 => ?_⟩
    rw [show d2 = .tup [.int (i : Int), .int (j : Int)] from p2] at r2
    rw [show d3 = .non from p3] at r3
    obtain ⟨a', kvs', ea, n', ek', _, hf⟩ := (r1.kept (s1.kp e2)).kept (s2.kp e3)
    cases ea
    obtain ⟨b, rfl, eb⟩ := key_at (r2.kept (s2.kp e3))
    refine ⟨(f i j).map V.int, .inr ⟨kvs', [Sum.inl (i : Int), Sum.inl (j : Int)], b, Rd.of ek', rfl, eb, (hf i j).symm⟩, ?_⟩
    refine q _ H3 (oD (f i j)) ((e1.trans e2).trans e3) s3 ?_ rfl
    cases f i j with
    | none => exact r3
    | some l => exact rfl
/-- _law_right(urn): true; the urn and the table may change -/
def spRight (CN PT : Addr) (q : Str) : Sp := fun vs H Q _ => ∃ (U : Addr → Prop) (u : Addr), vs = [.ref u] ∧ U u ∧ U PT ∧ u ≠ PT ∧ (∀ a, U a → H a ≠ none) ∧ CellOk CN U H u .urn ∧ CellOk CN U H PT (.tab q) ∧
  ∀ H', Ch [u, PT] H H' → CellOk CN U H' u .urn → CellOk CN U H' PT (.tab q) → Q (.bl true) H'
theorem ev_callR {i j jt : Nat} {PT : Addr} {q : Str} (hr : ρ[i]? = some (.c j)) (hm : μ[j]? = some .urn) (hA : W.A[jt]? = some PT) (ht : μ[jt]? = some (.tab q)) : EvP W (tCall (spRight W.CN PT q) [] E (tCons (tVar i) tNil)) ρ μ (Is (.bl true)) := fun σ H s Q qq => by
  obtain ⟨u, hu, hσ⟩ := s.sl i _ hr
  obtain ⟨u', hu', cu⟩ := s.sto.cell j _ hm
  rw [hu] at hu'
  cases hu'
  obtain ⟨p', hp', cp⟩ := s.sto.cell jt _ ht
  rw [hA] at hp'
  cases hp'
  have hne : u ≠ PT := fun z => by
    have : j = jt := nd_ixA s.sto.nd (z ▸ hu) hA
    rw [this, ht] at hm
    cases hm
  have uA := List.mem_of_getElem? hu
  have pA := List.mem_of_getElem? hA
  refine ⟨_, hσ, W.U, u, rfl, s.sto.sub u uA, s.sto.sub PT pA, hne, s.sto.uok, cu, cp, fun H' ch cu' cp' => ?_⟩
  have chA : Ch W.A H H' := ch.sub fun a ha => by
    rcases List.mem_cons.mp ha with rfl | ha
    · exact uA
    · rw [List.mem_singleton.mp ha]
      exact pA
  have kept := chA.kept s.sto.sub
  refine qq (.bl true) H' (.bl true) chA (s.kept kept ⟨fun k c h => ?_, fun a ha z => ?_, s.sto.vsub, s.sto.sub, s.sto.nd, s.sto.len, s.sto.n0⟩) rfl rfl
  · obtain ⟨a, h1, h2⟩ := s.sto.cell k c h
    refine ⟨a, h1, ?_⟩
    by_cases e1 : a = u
    · subst e1
      have : k = j := nd_ixA s.sto.nd h1 hu
      rw [this, hm] at h
      cases h
      exact cu'
    · by_cases e2 : a = PT
      · subst e2
        have : k = jt := nd_ixA s.sto.nd h1 hA
        rw [this, ht] at h
        cases h
        exact cp'
      · exact h2.stay kept fun o e => ch a o (by simp [e1, e2]) e
  · by_cases e1 : a = u
    · obtain ⟨x, y, w, e⟩ := cu'
      rw [e1, e] at z
      cases z
    · by_cases e2 : a = PT
      · obtain ⟨ps, e, _⟩ := cp'
        rw [e2, e] at z
        cases z
      · cases e : H a with
        | none => exact s.sto.uok a ha e
        | some o =>
          rw [ch a o (by simp [e1, e2]) e] at z
          cases z
end
section
variable {P : Program} {w : World} {K : PySem.W.Frag} {mg : Str → Option Value} {base : Heap} {CN PT c : Addr} {q : Str} {f : Addr} {fd : FuncData} {k : Nat}
theorem fn_right (F : FnP K "_law_right" s_law_right f fd) (hc : fd.code = .ref c)
    (hbody : ∀ (A : Around) (outer : List Env) (s : Shared) (H : Hp) (E : XK), Room k (A.deeper (PyProof.Rows.envOfC "_law_right" (defScope s_law_right) s.heap.objs.size f (.ref c))) → A.guards = some [] →
      ∃ t, PSs (cxOf CX0 P w K mg base n_law_right "_law_right" (defScope s_law_right) f (.ref c) A outer s H E).nox (defBody s_law_right) t ∧ ∀ U u, SvP ⟨CN, U, U, [u, PT], 2⟩ t (.c 0 :: List.replicate 14 .no) [.urn, .tab q] (fun _ _ => False) fun d μ' => d = .bl true ∧ μ' = [.urn, .tab q]) :
    FnOkG P w K mg base CX0 (k + 1) f fd ["_law_urn_here"] (spRight CN PT q) := by
  obtain ⟨oc, od, dV, kV, doc, pm, an, cdv, ct, osl, rfl, lk, hcd, _, _⟩ := F.ex
  have hcv : cdv = .ref c := hc
  subst hcv
  have S := sc_law_right
  have len : ∀ vs H Q E, spRight CN PT q vs H Q E → vs.length = (["_law_urn_here"] : List Str).length := fun vs H Q E h => by
    obtain ⟨U, u, rfl, _⟩ := h
    rfl
  refine ⟨len, fun A hg outer s H args us vs Q E hr e0 hb r h => ?_⟩
  have ok := e0.mod.kin.keeps fun b o z => (e0.bs b o z).1
  refine codeAny_call_function hr.depth (ok _ _ lk) rfl S.co S.gen rfl (PySem.W.codeRec_of ok hcd) (hb _ _ _ _ (wpAny_newFunctionEnv_cells S.kind (fun q hq => ?_) fun env he s1 x1 => ?_))
  · obtain ⟨n, v⟩ := q
    exact (S.par n (List.of_mem_zip hq).1).imp id fun z => ⟨z, PySem.W.cellsFrom_some _ _ _ (.inl z)⟩
  subst he
  obtain ⟨t, h1, h2⟩ := hbody A outer s H E (hr.deeper _) hg
  have hq := h
  obtain ⟨U, u, rfl, hUu, hUP, hne, hU, cu, cp, qq⟩ := hq
  have fin : t { nx := fun _ H' => Q .non H', rt := Q } (L2.start n_law_right [.ref u]) H := by
    refine h2 U u _ H _ ⟨⟨fun j c h => ?_, hU, fun a h => h, fun a h => ?_, ?_, rfl, Nat.le_refl _⟩, fun i x h => ?_, ?_⟩ (fun σ' H' ρ' μ' e s' n => n.elim) fun v H' d μ' e s' r' n => ?_
    · match j, h with
      | 0, h => cases h; exact ⟨u, rfl, cu⟩
      | 1, h => cases h; exact ⟨PT, rfl, cp⟩
      | j + 2, h => cases h
    · rcases List.mem_cons.mp h with rfl | h
      · exact hUu
      · rw [List.mem_singleton.mp h]
        exact hUP
    · simp [hne]
    · cases i with
      | zero => cases h; exact ⟨u, rfl, rfl⟩
      | succ i =>
        have h' : (List.replicate 14 Sl.no)[i]? = some x := h
        rw [List.getElem?_replicate] at h'
        split at h'
        · cases h'
          trivial
        · cases h'
    · rfl
    · obtain ⟨rfl, rfl⟩ := n
      obtain ⟨a, ha, ca⟩ := s'.cell 0 .urn rfl
      cases ha
      obtain ⟨b, hb, cb⟩ := s'.cell 1 (.tab q) rfl
      cases hb
      rw [show v = .bl true from r']
      exact qq H' e ca cb
  refine ⟨(e0.mod.nolimit.keeps fun b o z => (e0.bs b o z).1).keeps x1.toInCall.keep, codeAny_func (wpAny_mono (h1.nox.run [] s1 (start n_law_right [.ref u]) H _ (inv_start S hr.hd e0 (len _ _ _ _ h) r x1) fin) (fun fl s' hs => ?_) fun e s' z => z)⟩
  match fl, hs with
  | .ret u, ⟨v, σ', H', J, rv, q⟩ => exact ⟨v, H', J.os, J.bare, J.base, J.hok, rv, q⟩
  | .next, ⟨σ', H', J, q⟩ => exact ⟨.non, H', J.os, J.bare, J.base, J.hok, rfl, q⟩
  | .brk, ⟨_, _, _, q⟩ => exact q.elim
  | .cont, ⟨_, _, _, q⟩ => exact q.elim
end
end RN
end

section
set_option Elab.async false
set_option linter.all false
set_option maxRecDepth 100000
set_option maxHeartbeats 4000000
set_option autoImplicit false
/-! RN_X5: _law_right. -/
namespace RN
open PySem PySem.Spec L2 PySem.RNX LamX
theorem passX0 {P : Program} {w : World} {X : Cx} : Passes (L2.CX P w) X E0 := fun _ _ _ _ _ _ _ h => by
  obtain ⟨_, _, _, _, _, _, _, _, _, _, _, _, z⟩ := h
  exact z.elim
section
variable {W : Wd} {ρ : List Sl} {μ : List Cell}
def ups (k : Nat) : List Int := (List.range k).map fun (i : Nat) => (0 : Int) + (i : Int)
theorem ev_tupRg {k : Nat} {ta : TE} (ha : EvP W ta ρ μ (Is (.int (k : Int)))) (hk : k ≤ 1000) : EvP W (tTupRg (tRg1 ta)) ρ μ (Is (.tup ((ups k).map D.int))) := fun σ H s Q q =>
  ha σ H s _ fun v H1 d e1 s1 r1 p1 => by
    rw [show d = _ from p1] at r1
    refine ⟨_, r1, RgOk.of_le (by decide) (by omega) (by decide) (by omega), fun p hp => ?_⟩
    have hs := same_new (o := HO.tup (rgV 0 (k : Int))) hp
    have e : rgV 0 (k : Int) = (ups k).map V.int := by
      unfold rgV ups
      rw [List.map_map, show ((k : Int) - 0).toNat = k by omega]
      rfl
    refine q (.ref p) _ (.tup ((ups k).map D.int)) (e1.trans (Ch.of hs)) (s1.same hs) ⟨p, _, rfl, Stt.notU s1.sto hp, upd_same, ?_⟩ rfl
    rw [e]
    exact rpl_ints _
end
section
variable {P : Program} {w : World} {K : PySem.W.Frag} {mg : Str → Option Value} {base : Heap} {CN CP CR fI PT c : Addr} {f fm fi : Addr} {fd fdm fdi : FuncData} {params : Arguments} {body : List Stmt} {scope : Scope}
abbrev qLam : Str := (PyProof.Rows.envOfC "_law_right" (defScope s_law_right) 0 0 .none).qual ++ "<lambda>"
theorem ok_law_right (B : Bf mg) (RF : RefF P K CR fI params body scope) (g_Refused : mg "Refused" = some (.ref CR)) (g_Net : mg "Net" = some (.ref CN)) (MN : Mk K CN fi) (FI : FnOk P w K mg base CX0 10 fi fdi ["self", "knots", "wires"] (spInit CN)) (BI : Binds K fdi ["self", "knots", "wires"] [])
    (g_met : mg "_law_met" = some (.ref fm)) (F_met : FnP K "_law_met" s_law_met fm fdm) (TB : TabB base mg c PT)
    (C_law_ball : Cal P w K mg base CX0 1 "_law_ball" ["_law_urn_here", "_law_many"] (spBall CN)) (C_law_drawn : Cal P w K mg base CX0 5 "_law_drawn" ["_law_urn_here", "_law_is_sure"] (spDrawn CN)) (C_law_links : Cal P w K mg base CX0 1 "_law_links" ["_law_wires_here", "_law_ranges"] (spLLinks CN)) (C_law_lengths : Cal P w K mg base CX0 1 "_law_lengths" ["_law_knots", "_law_links_here"] (spLengths CN))
    (C_law_bars : CalG P w K mg base CX0 3 "_law_bars" ["_law_wires_here", "_law_ranges", "_law_value"] (spLBars CN)) (C_law_bent : Cal P w K mg base CX0 6 "_law_bent" ["_law_urn_here", "_law_value"] (spBent CN 6 4))
    (C_law_is_far : CalG P w K mg base CX0 3 "_law_is_far" ["_law_knots", "_law_wires_here", "_law_ranges", "_law_pair", "_law_value", "_law_length_here"] (spLFar CN))
    (C_most_apart : Cal P w K mg base (L2.CX P w) 7 "most_apart" ["net", "ranges", "start", "goal"] (spMost CN CR)) (C_is_most_apart : Cal P w K mg base (L2.CX P w) 7 "is_most_apart" ["net", "ranges", "start", "goal", "value"] (spIsMost CN CR))
    (g : mg "_law_right" = some (.ref f)) (F : FnP K "_law_right" s_law_right f fd) (hc : fd.code = .ref c) : CalG P w K mg base CX0 12 "_law_right" ["_law_urn_here"] (spRight CN PT qLam) := by
  refine cal_mkG g F (fun _ _ _ _ _ _ us hl => match us, hl with | [_], _ => rfl) (fn_right F hc fun A outer s H E hr hgd => ?_)
  refine ⟨_, (pss_cons (ps_asg (pe_own C_law_drawn (hr.mono (by decide)) rfl pass0 (pa_cons (pv 0) (pa_cons (pe_cmpR op_gt (pe_own C_law_ball (hr.mono (by decide)) rfl pass0 (pa_cons (pv 0) (pa_cons pe_int pa_nil))) pe_int (nomark _)) pa_nil))) (pg_tup rfl (pgs_cons (pg_name (i := 5) sc_law_right.nd rfl (by first | exact Or.inl rfl | exact Or.inr rfl)) (pgs_cons (pg_name (i := 6) sc_law_right.nd rfl (by first | exact Or.inl rfl | exact Or.inr rfl)) (pgs_cons (pg_name (i := 7) sc_law_right.nd rfl (by first | exact Or.inl rfl | exact Or.inr rfl)) pgs_nil))))) (pss_cons (ps_asg (pe_tup (pa_cons (pe_make MN FI (hr.mono (by decide)) rfl g_Net BI .nil pass0 (pa_cons (pv 5) (pa_cons (pv 6) pa_nil))) (pa_cons (pe_tup (pa_cons (pe_own C_law_ball (hr.mono (by decide)) rfl pass0 (pa_cons (pv 0) (pa_cons (pv 5) pa_nil))) (pa_cons (pe_own C_law_ball (hr.mono (by decide)) rfl pass0 (pa_cons (pv 0) (pa_cons (pv 5) pa_nil))) pa_nil))) pa_nil))) (pg_tup rfl (pgs_cons (pg_name (i := 8) sc_law_right.nd rfl (by first | exact Or.inl rfl | exact Or.inr rfl)) (pgs_cons (pg_name (i := 9) sc_law_right.nd rfl (by first | exact Or.inl rfl | exact Or.inr rfl)) pgs_nil)))) (pss_cons (ps_asg (pe_own C_law_lengths (hr.mono (by decide)) rfl pass0 (pa_cons (pv 5) (pa_cons (pe_own C_law_links (hr.mono (by decide)) rfl pass0 (pa_cons (pv 6) (pa_cons (pv 7) pa_nil))) pa_nil))) (pg_tup rfl (pgs_cons (pg_name (i := 10) sc_law_right.nd rfl (by first | exact Or.inl rfl | exact Or.inr rfl)) (pgs_cons (pg_name (i := 11) sc_law_right.nd rfl (by first | exact Or.inl rfl | exact Or.inr rfl)) pgs_nil)))) (pss_cons (ps_asg (pe_lamP (k := 7) rfl g_met F_met sc_law_met rfl (.inl rfl) (fun _ _ _ _ _ _ us hl => match us, hl with | [_], _ => rfl) (fun cdv => met_gives RF g_Refused) TB rfl (hr.mono (by decide)) (lamS_by (sc := defScope s_law_right) (by decide +kernel)) rfl (fun _ _ _ _ _ => rfl) (fun A outer s H E f c' hr2 => (pe_own C_most_apart hr2 rfl (passes_call (takes_of rfl rfl rfl rfl) fun _ _ _ _ h => h) (pa_cons (pv 8) (pa_cons (pv 7) (pa_cons (pe_ix (ix_tupK (K := K) rfl) (pv 9) pe_int (fun _ _ => rfl)) (pa_cons (pe_ix (ix_tupK (K := K) rfl) (pv 9) pe_int (fun _ _ => rfl)) pa_nil))))))) (pg_tup rfl (pgs_cons (pg_name (i := 12) sc_law_right.nd rfl (by first | exact Or.inl rfl | exact Or.inr rfl)) (pgs_cons (pg_name (i := 13) sc_law_right.nd rfl (by first | exact Or.inl rfl | exact Or.inr rfl)) pgs_nil)))) (pss_cons (ps_if (pt_not (pt_val (pv 11))) (pss_one (ps_ret (pe_and (pe_cmpR op_eq (pv 12) pe_str (nomark _)) (pe_and (pe_cmpR op_eq (pe_ix ix_tup (pv 13) pe_int (fun _ _ => rfl)) pe_str (nomark _)) (pe_one (pe_ownG C_law_bars (hr.mono (by decide)) hgd rfl pass0 (pa_cons (pv 6) (pa_cons (pv 7) (pa_cons (pe_ix ix_tup (pv 13) pe_int (fun _ _ => rfl)) pa_nil))))))))) pss_nil) (pss_cons (ps_set (i := 1) sc_law_right.nd rfl (by first | exact Or.inl rfl | exact Or.inr rfl) (pe_dget2 (hu_of hr) (pv 10) (pv 9) pe_non ⟨rfl, rfl, rfl, rfl⟩)) (pss_cons (ps_if (PW.pt (pw_or (pt_cmpR op_ne (pv 12) pe_str (nomark _)) (pw_or1 (pt_cmpR op_ne (pe_ix ix_tup (pv 13) pe_int (fun _ _ => rfl)) (pe_ifExp (pt_cmp (pc_notN (pv 1))) pe_str pe_str) (nomark _))))) (pss_one (ps_ret pe_bl)) pss_nil) (pss_cons (ps_set (i := 2) sc_law_right.nd rfl (by first | exact Or.inl rfl | exact Or.inr rfl) (pe_lst (pa_cons (pv 13) (pa_cons pe_non (pa_cons (pe_tup pa_nil) (pa_cons (pe_slice sl_tupA (pv 13) (po_some pe_int) po_none) (pa_cons (pe_tup (pa_cons pe_str (pa_cons (pv 1) (pa_cons (pe_tup pa_nil) pa_nil)))) (pa_cons (pe_tup (pa_cons pe_str (pa_cons (pe_tupRg rfl rfl B.b_tuple (prg_1 rfl B.b_range (pv 5))) pa_nil))) (pa_cons pe_str pa_nil))))))))) (pss_cons (ps_expr (pe_bm PySem.F.plainAttrs_list PySem.F.slot_list_append PySem.F.type_list_append mt_append (pv 2) (pa_cons (pe_tup (pa_cons pe_str (pa_cons (pe_tup (pa_cons (pe_ix ix_tup (pv 9) pe_int (fun _ _ => rfl)) pa_nil)) pa_nil))) pa_nil))) (pss_cons (ps_for PassesOwn.never rfl (pi_range1 rfl B.b_range (pa_cons pe_int pa_nil)) (pg_name (i := 3) sc_law_right.nd rfl (by first | exact Or.inl rfl | exact Or.inr rfl)) (pss_one (ps_expr (pe_bm PySem.F.plainAttrs_list PySem.F.slot_list_append PySem.F.type_list_append mt_append (pv 2) (pa_cons (pe_own C_law_bent (hr.mono (by decide)) rfl pass0 (pa_cons (pv 0) (pa_cons (pv 13) pa_nil))) pa_nil))))) (pss_cons (ps_for PassesOwn.never rfl (pi_list (pv 2)) (pg_name (i := 4) sc_law_right.nd rfl (by first | exact Or.inl rfl | exact Or.inr rfl)) (pss_cons (ps_set (i := 14) sc_law_right.nd rfl (by first | exact Or.inl rfl | exact Or.inr rfl) (pe_ownG C_law_is_far (hr.mono (by decide)) hgd rfl pass0 (pa_cons (pv 5) (pa_cons (pv 6) (pa_cons (pv 7) (pa_cons (pv 9) (pa_cons (pv 4) (pa_cons (pv 1) pa_nil)))))))) (pss_one (ps_if (pt_cmpR op_ne (pe_own C_is_most_apart (hr.mono (by decide)) rfl passX0 (pa_cons (pv 8) (pa_cons (pv 7) (pa_cons (pe_ix ix_tup (pv 9) pe_int (fun _ _ => rfl)) (pa_cons (pe_ix ix_tup (pv 9) pe_int (fun _ _ => rfl)) (pa_cons (pv 4) pa_nil)))))) (pv 14) (nomark _)) (pss_one (ps_ret pe_bl)) pss_nil)))) (pss_one (ps_ret (pe_ownG C_law_is_far (hr.mono (by decide)) hgd rfl pass0 (pa_cons (pv 5) (pa_cons (pv 6) (pa_cons (pv 7) (pa_cons (pv 9) (pa_cons (pv 13) (pa_cons (pv 1) pa_nil)))))))))))))))))))), fun U u => ?_⟩
  refine sv_seq (N1 := fun ρ' μ' => ∃ n rs, Drawn1 n rs ∧ ρ' = [.c 0, .no, .no, .no, .no, .d (.int (n.k : Int)), .d (wsD n.ws), .d (rsD rs), .no, .no, .no, .no, .no, .no, .no] ∧ μ' = [.urn, .tab qLam])
    (sv_asg (P := fun d => ∃ n rs, Drawn1 n rs ∧ d = .tup [.int (n.k : Int), wsD n.ws, rsD rs]) (ev_callUN (j := 0) rfl rfl (ea_consN (en_cmp (ev_callU (j := 0) (5 : Int) rfl rfl (ea_cons ev_int ea_nil) (mOk_of (by decide) (by decide)) fun d h => h) (en_is ev_int)) ea_nil) fun ds hd => ?_) fun d hd => ?_) fun ρ' μ' h => ?_
  · obtain ⟨d, r, rfl, ⟨x, y, _, _, rfl⟩, hr'⟩ := hd
    rw [show r = [] from hr']
    exact ⟨_, rfl, trivial, fun d h => h⟩
  · obtain ⟨n, rs, hD, rfl⟩ := hd
    refine (gv_tup rfl (gs_cons (gv_name (gs_cons (gv_name (gs_cons (gv_name (gs_nil ?_))))))))
    exact ⟨n, rs, hD, rfl, rfl⟩
  obtain ⟨n, rs, ⟨hn, hk6, hw9, hlen, hrg⟩, rfl, rfl⟩ := h
  have hk1 : 1 ≤ n.k := hn.1
  have hballs : ∀ {ρ : List Sl}, ρ[0]? = some (.c 0) → ρ[5]? = some (.d (.int (n.k : Int))) → EvN ⟨CN, U, U, [u, PT], 2⟩ (tCall (spBall CN) [] E0 (tCons (tVar 0) (tCons (tVar 5) tNil))) ρ [.urn, .tab qLam] fun r => 0 ≤ r ∧ r < (n.k : Int) := fun h0 h5 => ev_callU (W := ⟨CN, _, _, [_, _], 2⟩) (j := 0) (n.k : Int) h0 rfl (ea_cons (ev_var h5) ea_nil) (mOk_of (by omega) (by omega)) fun d h => h
  refine sv_seq (N1 := fun ρ' μ' => ∃ s g : Nat, s < n.k ∧ g < n.k ∧ ρ' = [.c 0, .no, .no, .no, .no, .d (.int (n.k : Int)), .d (wsD n.ws), .d (rsD rs), .d n.d, .d (.tup [.int (s : Int), .int (g : Int)]), .no, .no, .no, .no, .no] ∧ μ' = [.urn, .tab qLam])
    (sv_asg (P := fun d => ∃ s g : Nat, s < n.k ∧ g < n.k ∧ d = .tup [n.d, .tup [.int (s : Int), .int (g : Int)]]) (EvP.imp (ev_pairN (Pa := Is n.d) (ev_net n (ea_cons (ev_var rfl) (ea_cons (ev_var rfl) ea_nil)) hn) (ev_pairN (hballs rfl rfl) (hballs rfl rfl))) fun d hd => ?_) fun d hd => ?_) fun ρ' μ' h => ?_
  · obtain ⟨a, b, rfl, ha, a1, b1, rfl, ⟨x, rfl, hx0, hx1⟩, ⟨y, rfl, hy0, hy1⟩⟩ := hd
    rw [show a = _ from ha]
    refine ⟨x.toNat, y.toNat, by omega, by omega, ?_⟩
    rw [Int.toNat_of_nonneg hx0, Int.toNat_of_nonneg hy0]
  · obtain ⟨s, g, hs, hg, rfl⟩ := hd
    refine (gv_tup rfl (gs_cons (gv_name (gs_cons (gv_name (gs_nil ?_))))))
    exact ⟨s, g, hs, hg, rfl, rfl⟩
  obtain ⟨s, g, hs, hg, rfl, rfl⟩ := h
  have hls := lks_ok (rs := rs) hn
  have hl48 : (Lks n rs).length ≤ 48 := by
    have := lkUp_len n.ws rs n.ws.length
    have := hn.2.2.1
    show (lkUp n.ws rs n.ws.length).length ≤ 48
    omega
  refine sv_seq (N1 := fun ρ' μ' => ∃ c, ρ' = [.c 0, .no, .no, .no, .no, .d (.int (n.k : Int)), .d (wsD n.ws), .d (rsD rs), .d n.d, .d (.tup [.int (s : Int), .int (g : Int)]), .d (.dt c (fwAll n.k (Lks n rs))), .d (.bl (isLet n.k (Lks n rs))), .no, .no, .no] ∧ μ' = [.urn, .tab qLam])
    (sv_asg (P := fun d => ∃ c, d = .tup [.dt c (fwAll n.k (Lks n rs)), .bl (isLet n.k (Lks n rs))]) (ev_callN (n.k, Lks n rs) (ea_cons (ev_var rfl) (ea_cons (ev_callG (n.ws, rs) (ea_cons (ev_var rfl) (ea_cons (ev_var rfl) ea_nil)) ⟨hlen, hn.2.2.1⟩) ea_nil)) ⟨hk6, hl48, hls⟩ fun d h => h) fun d hd => ?_) fun ρ' μ' h => ?_
  · obtain ⟨c, rfl⟩ := hd
    refine (gv_tup rfl (gs_cons (gv_name (gs_cons (gv_name (gs_nil ?_))))))
    exact ⟨c, rfl, rfl⟩
  obtain ⟨c', rfl, rfl⟩ := h
  have hq : TwoQ.ok ⟨n, rs, s, g⟩ := ⟨⟨hn, hlen⟩, hs, hg, hrg⟩
  refine sv_seq (N1 := fun ρ' μ' => ∃ wd r, MetP ⟨n, rs, s, g⟩ (.tup [.str wd, r]) ∧ ρ' = [.c 0, .no, .no, .no, .no, .d (.int (n.k : Int)), .d (wsD n.ws), .d (rsD rs), .d n.d, .d (.tup [.int (s : Int), .int (g : Int)]), .d (.dt c' (fwAll n.k (Lks n rs))), .d (.bl (isLet n.k (Lks n rs))), .d (.str wd), .d r, .no] ∧ μ' = [.urn, .tab qLam])
    (sv_asg (P := MetP ⟨n, rs, s, g⟩) (ev_met ⟨n, rs, s, g⟩ (jt := 1) rfl rfl (ea_cons (ev_var rfl) (ea_cons (ev_var rfl) (ea_cons (ev_ixT (i := 0) (ds := [.int (s : Int), .int (g : Int)]) rfl (ev_var rfl) ev_int) (ea_cons (ev_ixT (i := 1) (ds := [.int (s : Int), .int (g : Int)]) rfl (ev_var rfl) ev_int) ea_nil)))) hq) fun d hd => ?_) fun ρ' μ' h => ?_
  · have : ∃ wd r, d = .tup [.str wd, r] := by
      rcases hd with ⟨r, e, _⟩ | ⟨r, e, _⟩
      · exact ⟨_, _, e⟩
      · exact ⟨_, _, e⟩
    obtain ⟨wd, r, rfl⟩ := this
    refine (gv_tup rfl (gs_cons (gv_name (gs_cons (gv_name (gs_nil ?_))))))
    exact ⟨wd, r, hd, rfl, rfl⟩
  obtain ⟨wd, r, hmet, rfl, rfl⟩ := h
  rcases hmet with ⟨r', e, hfit, hpost⟩ | ⟨r', e, hloop⟩
  rotate_left
  · cases e
    obtain ⟨m, F', hR, rfl⟩ := hloop
    have hlet : isLet n.k (Lks n rs) = false := ring_notLet hls hR
    obtain ⟨p, st, hst, hbar⟩ := ring_bar hn hk6 hlen hrg hR
    rw [hst, hlet]
    refine sv_guard (b := true) (EvB.to (eb_not (eb_B (ev_var rfl))) rfl) (fun _ => ?_) fun h => nomatch h
    refine sv_ret1 (EvP.to (ev_andV (a := true) (b := true) (EvP.to (ev_eqS (ev_var rfl) ev_str) (congrArg D.bl (decide_eq_true rfl))) fun _ => EvP.to (ev_andV (a := true) (b := true) (EvP.to (ev_eqS (ev_ixT (i := 0) (ds := [.str "loop", stepsD (p :: st)]) rfl (ev_var rfl) ev_int) ev_str) (congrArg D.bl (decide_eq_true rfl))) fun _ => ev_callG ⟨n.ws, rs, p, st⟩ (ea_cons (ev_var rfl) (ea_cons (ev_var rfl) (ea_cons (ev_ixT (i := 1) (ds := [.str "loop", stepsD (p :: st)]) rfl (ev_var rfl) ev_int) ea_nil))) hbar) rfl) rfl) ⟨rfl, rfl⟩
  cases e
  obtain ⟨π, hpot⟩ := id hfit
  have hlet : isLet n.k (Lks n rs) = true := pot_let hpot
  refine sv_guard (b := false) (EvB.to (eb_not (eb_B (ev_var rfl))) (by rw [hlet]; rfl)) (fun h => nomatch h) fun _ => ?_
  have htm := told_tm (z := ⟨n, rs, s, g⟩) hk6 hn hrg hpost
  have hfar := told_far (z := ⟨n, rs, s, g⟩) hn hlen hg hs ⟨π, hpot⟩ hpost
  replace hfar : isFar n.ws rs n.k s g (fwAll n.k (Lks n rs) s g) r = true := hfar
  obtain ⟨x, hx⟩ : ∃ x, fwAll n.k (Lks n rs) s g = x := ⟨_, rfl⟩
  have hshape : ∃ w0 rest, r = .tup (.str w0 :: rest) ∧ w0 = (if x.isSome then "most" else "endless" : Str) ∧ ∀ y, x = some y → y.natAbs ≤ 10 ^ 61 := by
    obtain ⟨far, ah, ap, h⟩ := hpost
    have e : fwAll n.k (Lks n rs) s g = far g := apart_fw hls ap hs hpot
    rw [e] at hx
    rcases h with ⟨h1, rfl⟩ | ⟨y, st, h1, rfl, _⟩
    · have hx2 : x = none := hx.symm.trans h1
      subst hx2
      exact ⟨_, _, rfl, rfl, fun y h => nomatch h⟩
    · have hx2 : x = some y := hx.symm.trans h1
      subst hx2
      refine ⟨_, _, rfl, rfl, fun y' h => ?_⟩
      cases h
      have := (tm_tup htm).2 (.int y) (List.mem_cons_of_mem _ List.mem_cons_self)
      exact of_decide_eq_true this
  obtain ⟨w0, rest, rfl, hw0, hxb⟩ := hshape
  rw [hx] at hfar
  have okM : ∀ {d : D} {n' : Nat}, n' ≤ 12 → D.sm (10 ^ 62) n' 4 d = true → d.ok := fun h1 h => sm_mono (by decide) h1 (Nat.le_refl _) h
  have okr : D.ok (.tup (.str w0 :: rest)) := okM (by decide) (tm_sm htm)
  refine sv_let1 (i := 1) (d := oD x) (EvP.to (ev_dget2T (ev_var rfl) (ev_var rfl) ev_non) (congrArg oD hx)) ?_
  refine sv_guard (b := false) (EvB.to (eb_or (a := false) (b := false) (EvB.to (eb_T (ev_neS (ev_var (x := .str "told") rfl) ev_str)) (by decide)) fun _ => EvB.to (eb_T (ev_neS (ev_ixT (i := 0) (ds := .str w0 :: rest) (atI0 _ _) (ev_var rfl) ev_int) (ev_if (P := Is (.str w0)) (b := !(oD x).isN) (eb_T (ev_notN (ev_var rfl))) (fun h => EvP.to ev_str ?_) fun h => EvP.to ev_str ?_))) (by rw [decide_eq_true rfl]; rfl)) rfl) (fun h => nomatch h) fun _ => ?_
  · rw [hw0]
    cases x with
    | none => cases h
    | some y => rfl
  · rw [hw0]
    cases x with
    | none => rfl
    | some y => cases h
  refine sv_new (i := 2) (ef_lst (PA := fun ds => ds.length = 7 ∧ ∀ d ∈ ds, d.ok) (ea_allN ?_ (ea_allN ?_ (ea_allN ?_ (ea_allN ?_ (ea_allN ?_ (ea_allN ?_ (ea_allN ?_ ea_all0))))))) fun ds h => by rw [h.1]; decide) fun p c fr hc => ?_
  · exact EvP.imp (ev_var (x := .tup (.str w0 :: rest)) rfl) fun d e => by rw [show d = _ from e]; exact okr
  · exact EvP.imp ev_non fun d e => by rw [show d = _ from e]; rfl
  · exact EvP.imp (ev_tup1 ea_nil) fun d e => by rw [show d = _ from e]; exact sm_tupI (Nat.zero_le _) fun _ h => nomatch h
  · refine EvP.imp (ev_slT (ds := .str w0 :: rest) (ev_var rfl) (eo_some ev_int) eo_none) fun d e => ?_
    rw [show d = _ from e]
    obtain ⟨h1, h2⟩ := sm_tup okr
    exact sm_tupI (Nat.le_trans (cutD_le _ _ _) h1) fun d hd => h2 d (cutD_mem hd)
  · refine EvP.imp (ev_tup1 (ea_cons ev_str (ea_cons (ev_var (x := oD x) rfl) (ea_cons (ev_tup1 ea_nil) ea_nil))) (Nat.le_of_ble_eq_true rfl)) fun d e => ?_
    rw [show d = _ from e]
    refine sm_tupI (Nat.le_of_ble_eq_true rfl) fun d hd => ?_
    rcases List.mem_cons.mp hd with rfl | hd
    · rw [sm_str]; decide
    · rcases List.mem_cons.mp hd with rfl | hd
      · cases x with
        | none => rfl
        | some y =>
          show D.sm _ _ _ (.int y) = true
          rw [sm_int]
          have := hxb y rfl
          exact decide_eq_true (by omega)
      · rw [List.mem_singleton.mp hd]
        exact sm_tupI (Nat.zero_le _) fun _ h => nomatch h
  · refine EvP.imp (ev_tup1 (ea_cons ev_str (ea_cons (ev_tupRg (k := n.k) (ev_var rfl) (by omega)) ea_nil)) (Nat.le_of_ble_eq_true rfl)) fun d e => ?_
    rw [show d = _ from e]
    refine sm_tupI (Nat.le_of_ble_eq_true rfl) fun d hd => ?_
    rcases List.mem_cons.mp hd with rfl | hd
    · rw [sm_str]; decide
    · rw [List.mem_singleton.mp hd]
      refine sm_tupI (by unfold ups; rw [List.length_map, List.length_map, List.length_range]; omega) fun d hd => ?_
      obtain ⟨i, hi, rfl⟩ := List.mem_map.mp hd
      unfold ups at hi
      obtain ⟨j, hj, rfl⟩ := List.mem_map.mp hi
      rw [List.mem_range] at hj
      rw [sm_int]
      exact decide_eq_true (by omega)
  · exact EvP.imp ev_str fun d e => by rw [show d = _ from e]; show D.sm _ _ _ _ = true; rw [sm_str]; decide
  obtain ⟨ds7, rfl, hl7, hok7⟩ := hc
  have okI : ∀ {i : Nat}, i ≤ 6 → D.sm (10 ^ 64) 12 2 (.int (i : Int)) = true := fun h => by rw [sm_int]; exact decide_eq_true (by omega)
  have snoc : ∀ {ds : List D} {d : D}, (∀ d ∈ ds, d.ok) → d.ok → ∀ e ∈ ds ++ [d], e.ok := fun h1 h2 e he => (List.mem_append.mp he).elim (h1 e) fun h => by rw [List.mem_singleton.mp h]; exact h2
  refine sv_seq (N1 := fun ρ' μ' => ∃ ds : List D, ds.length = 8 ∧ (∀ d ∈ ds, d.ok) ∧ ρ' = [.c 0, .d (oD x), .c 2, .no, .no, .d (.int (n.k : Int)), .d (wsD n.ws), .d (rsD rs), .d n.d, .d (.tup [.int (s : Int), .int (g : Int)]), .d (.dt c' (fwAll n.k (Lks n rs))), .d (.bl (isLet n.k (Lks n rs))), .d (.str "told"), .d (.tup (.str w0 :: rest)), .no] ∧ μ' = [.urn, .tab qLam, .ml ds]) (sv_app (j := 2) (P := fun d => d.ok) rfl rfl (by omega) (EvP.imp (ev_tup1 (ea_cons ev_str (ea_cons (ev_tup1 (ea_cons (ev_ixT (i := 1) (ds := [.int (s : Int), .int (g : Int)]) rfl (ev_var rfl) ev_int) ea_nil) (Nat.le_of_ble_eq_true rfl)) ea_nil)) (Nat.le_of_ble_eq_true rfl)) fun d e => ?_) fun d hd => ⟨ds7 ++ [d], by rw [List.length_append, hl7]; rfl, snoc hok7 hd, rfl, rfl⟩) fun ρ' μ' h => ?_
  · rw [show d = _ from e]
    refine sm_tupI (Nat.le_of_ble_eq_true rfl) fun d hd => ?_
    rcases List.mem_cons.mp hd with rfl | hd
    · rw [sm_str]; decide
    · rw [List.mem_singleton.mp hd]
      exact sm_tupI (Nat.le_of_ble_eq_true rfl) fun d hd => by rw [List.mem_singleton.mp hd]; exact okI (by omega)
  obtain ⟨ds8, hl8, hok8, rfl, rfl⟩ := h
  refine sv_seq (N1 := fun ρ' μ' => ∃ (ds : List D) (t : Sl), ds.length ≤ 20 ∧ (∀ d ∈ ds, d.ok) ∧ ρ' = [.c 0, .d (oD x), .c 2, t, .no, .d (.int (n.k : Int)), .d (wsD n.ws), .d (rsD rs), .d n.d, .d (.tup [.int (s : Int), .int (g : Int)]), .d (.dt c' (fwAll n.k (Lks n rs))), .d (.bl (isLet n.k (Lks n rs))), .d (.str "told"), .d (.tup (.str w0 :: rest)), .no] ∧ μ' = [.urn, .tab qLam, .ml ds])
    (sv_for (ds := upto 10) (fun i ρ' μ' => ∃ (ds : List D) (t : Sl), ds.length = 8 + i ∧ (∀ d ∈ ds, d.ok) ∧ ρ' = [.c 0, .d (oD x), .c 2, t, .no, .d (.int (n.k : Int)), .d (wsD n.ws), .d (rsD rs), .d n.d, .d (.tup [.int (s : Int), .int (g : Int)]), .d (.dt c' (fwAll n.k (Lks n rs))), .d (.bl (isLet n.k (Lks n rs))), .d (.str "told"), .d (.tup (.str w0 :: rest)), .no] ∧ μ' = [.urn, .tab qLam, .ml ds]) (iv_rng (ea_cons ev_int ea_nil) (by decide)) ⟨ds8, .no, hl8, hok8, rfl, rfl⟩ (fun i d ρ' μ' hd inv => ?_) fun ρ' μ' h => ?_) fun ρ' μ' h => ?_
  · obtain ⟨ds, t, hl, hok, rfl, rfl⟩ := inv
    have hi : i < 10 := by
      have := (List.getElem?_eq_some_iff.mp hd).1
      rw [upto_len] at this
      exact this
    refine gv_name (sv_app (j := 2) (P := fun d => d.ok) rfl rfl (by omega) (ev_callU (j := 0) (D.tup (.str w0 :: rest)) rfl rfl (ea_cons (ev_var rfl) ea_nil) htm fun d h => okM (by decide) h) fun d hd => ⟨ds ++ [d], _, by rw [List.length_append, hl]; rfl, snoc hok hd, rfl, rfl⟩)
  · obtain ⟨ds, t, hl, hok, e1, e2⟩ := h
    rw [upto_len] at hl
    exact ⟨ds, t, by omega, hok, e1, e2⟩
  obtain ⟨ds, t, hl, hok, rfl, rfl⟩ := h
  refine sv_frz (μ := [.urn, .tab qLam]) (c := .ml ds) [0, 1, 2, 5, 6, 7, 8, 9, 13] (i := 2) fr ?_
  have hxb' : ∀ y, x = some y → y.natAbs ≤ 10 ^ 64 := fun y h => Nat.le_trans (hxb y h) (by decide)
  have farq : ∀ {v : D}, v.ok → FarQ.ok ⟨n.ws, rs, n.k, s, g, v, x⟩ := fun hv => ⟨hlen, hn.2.2.1, hn.2.1, hv, hxb'⟩
  refine sv_seq (N1 := fun ρ' μ' => ∃ a b, ρ' = [.c 0, .d (oD x), .d (.lst ds), .no, a, .d (.int (n.k : Int)), .d (wsD n.ws), .d (rsD rs), .d n.d, .d (.tup [.int (s : Int), .int (g : Int)]), .no, .no, .no, .d (.tup (.str w0 :: rest)), b] ∧ μ' = [.urn, .tab qLam])
    (sv_for (ds := ds) (fun i ρ' μ' => ∃ a b, ρ' = [.c 0, .d (oD x), .d (.lst ds), .no, a, .d (.int (n.k : Int)), .d (wsD n.ws), .d (rsD rs), .d n.d, .d (.tup [.int (s : Int), .int (g : Int)]), .no, .no, .no, .d (.tup (.str w0 :: rest)), b] ∧ μ' = [.urn, .tab qLam]) (iv_list (ev_var rfl)) ⟨.no, .no, rfl, rfl⟩ (fun i v ρ' μ' hd inv => ?_) fun ρ' μ' h => h) fun ρ' μ' h => ?_
  · obtain ⟨a, b, rfl, rfl⟩ := inv
    have hv : v.ok := hok v (List.mem_of_getElem? hd)
    refine gv_name (sv_let1 (i := 14) (d := .bl (isFar n.ws rs n.k s g x v)) (ev_callG (FarQ.mk n.ws rs n.k s g v x) (ea_cons (ev_var rfl) (ea_cons (ev_var rfl) (ea_cons (ev_var rfl) (ea_cons (ev_var rfl) (ea_cons (ev_var rfl) (ea_cons (ev_var rfl) ea_nil)))))) (farq hv)) ?_)
    refine sv_if (b := false) (EvB.to (eb_T (ev_neB (i := isFar n.ws rs n.k s g x v) (ev_callX (FarV.mk ⟨n, rs, s, g⟩ v) (ea_cons (ev_var rfl) (ea_cons (ev_var rfl) (ea_cons (ev_ixT (i := 0) (ds := [.int (s : Int), .int (g : Int)]) rfl (ev_var rfl) ev_int) (ea_cons (ev_ixT (i := 1) (ds := [.int (s : Int), .int (g : Int)]) rfl (ev_var rfl) ev_int) (ea_cons (ev_var rfl) ea_nil))))) ⟨hq, ⟨π, hpot⟩, ok_vl hv⟩ (fun d h => ?_) fun _ h => h) (ev_var rfl))) (by rw [decide_eq_true rfl]; rfl)) (fun h => nomatch h) fun _ => sv_next ⟨_, _, rfl, rfl⟩
    rw [show d = _ from h]
    show D.bl (isFar n.ws rs n.k s g (fwAll n.k (Lks n rs) s g) v) = _
    rw [hx]
  · obtain ⟨a, b, rfl, rfl⟩ := h
    exact sv_ret1 (EvP.to (ev_callG (FarQ.mk n.ws rs n.k s g (.tup (.str w0 :: rest)) x) (ea_cons (ev_var rfl) (ea_cons (ev_var rfl) (ea_cons (ev_var rfl) (ea_cons (ev_var rfl) (ea_cons (ev_var rfl) (ea_cons (ev_var rfl) ea_nil)))))) (farq okr)) (congrArg D.bl hfar)) ⟨rfl, rfl⟩
end
end RN
end

section
set_option Elab.async false
set_option linter.all false
set_option maxRecDepth 100000
set_option maxHeartbeats 4000000
set_option autoImplicit false
/-! RN_X6: law. -/
namespace RN
open PySem PySem.Spec L2 PySem.RNX LamX
section
variable {W : Wd} {ρ : List Sl} {μ : List Cell} {E : XK} {ta tb te : TE} {t2 : TS} {K : PySem.W.Frag} {N : List Sl → List Cell → Prop} {R : D → List Cell → Prop}
theorem ev_max2 {i j : Int} (ha : EvP W ta ρ μ (Is (.int i))) (hb : EvP W tb ρ μ (Is (.int j))) : EvP W (tCB rMax2 (tCons ta (tCons tb tNil))) ρ μ (Is (.int (if j > i then j else i))) := ev_cb2 ha hb fun H μ s vs r Q q => by
  obtain ⟨v, r1, rfl, rv, v2, r2, rfl, rv2, rr⟩ := r
  rw [show v = .int i from rv, show v2 = .int j from rv2, show r2 = [] from rr]
  exact ⟨i, j, rfl, q _ H (.int _) (Same.refl H) rfl rfl⟩
theorem ev_min2 {i j : Int} (ha : EvP W ta ρ μ (Is (.int i))) (hb : EvP W tb ρ μ (Is (.int j))) : EvP W (tCB rMin2 (tCons ta (tCons tb tNil))) ρ μ (Is (.int (if j < i then j else i))) := ev_cb2 ha hb fun H μ s vs r Q q => by
  obtain ⟨v, r1, rfl, rv, v2, r2, rfl, rv2, rr⟩ := r
  rw [show v = .int i from rv, show v2 = .int j from rv2, show r2 = [] from rr]
  exact ⟨i, j, rfl, q _ H (.int _) (Same.refl H) rfl rfl⟩
/-- a new urn -/
theorem ef_urn {i j n : Nat} {ns : List Int} (hi : ρ[i]? = some (.s K ns)) (hj : ρ[j]? = some (.d (.int (n : Int)))) (hn : n ≤ 2) : EvF W (tCall (spUrn K) [] E (tCons (tVar i) (tCons (tVar j) tNil))) ρ μ (Is .urn) := fun σ H s Q q => by
  obtain ⟨a, hσ, hs⟩ := s.sl i _ hi
  obtain ⟨v, hσ2, rv⟩ := s.sl j _ hj
  refine ⟨_, hσ, _, hσ2, a, ns, n, by rw [show v = _ from rv]; rfl, hs.weak fun _ z => z.elim, hn, fun p H' x y z hp es ep => ?_⟩
  refine q p H' .urn hp (Ch.of es) ((s.ext hp (c := .urn) (o := .lst [.int x, .int y, .int z]) ⟨x, y, z, upd_same⟩).same fun b o hb => ?_) rfl
  by_cases e : b = p
  · rw [e, upd_same] at hb
    rw [e, ep]
    exact hb
  · rw [upd_ne e] at hb
    exact es b o hb
theorem Stt.drop {p : Addr} {c : Cell} {σ : L2.St} {H : Hp} (f : Fr W p) (s : Stt (W.ext p) σ H ρ (μ ++ [c])) (hc : ∀ (k l : Nat), ρ[k]? = some (.c l) → l < μ.length) : Stt W σ H ρ μ := by
  have hU : ∀ a, W.U a → (W.ext p).U a := fun a z => .inl z
  have hlen : μ.length = W.A.length := by
    have h1 := s.sto.len
    have h2 : (W.ext p).A.length = W.A.length + 1 := by
      show (W.A ++ [p]).length = _
      rw [List.length_append, List.length_singleton]
    rw [List.length_append, List.length_singleton] at h1
    omega
  refine ⟨⟨fun j c' h => ?_, fun a h => s.sto.uok a (hU a h), f.vsub, f.sub, f.nd, hlen, f.n0⟩, fun j x h => ?_, s.len⟩
  · have hj : j < μ.length := (List.getElem?_eq_some_iff.mp h).1
    obtain ⟨a, h1, h2⟩ := s.sto.cell j c' (by rw [List.getElem?_append_left hj]; exact h)
    have h1' : (W.A ++ [p])[j]? = some a := h1
    rw [List.getElem?_append_left (by omega)] at h1'
    exact ⟨a, h1', h2.weak hU⟩
  · have q := s.sl j x h
    cases x with
    | no => trivial
    | d x =>
      obtain ⟨v, q1, q2⟩ := q
      exact ⟨v, q1, q2.weak hU⟩
    | c l =>
      obtain ⟨a, q1, q2⟩ := q
      have hl := hc j l h
      have q1' : (W.A ++ [p])[l]? = some a := q1
      rw [List.getElem?_append_left (by omega)] at q1'
      exact ⟨a, q1', q2⟩
    | s K ns =>
      obtain ⟨a, q1, q2⟩ := q
      exact ⟨a, q1, q2.weak hU⟩
/-- x = .., a new cell that is let go at the end -/
theorem sv_newN {PC : Cell → Prop} {i : Nat} (h : EvF W te ρ μ PC)
    (k : ∀ p c, Fr W p → PC c → SvP (W.ext p) t2 (ρ.set i (.c μ.length)) (μ ++ [c]) (fun ρ' μ' => ∃ c' ρ2, μ' = μ ++ [c'] ∧ ρ2.length = ρ'.length ∧ (∀ (k : Nat) x, ρ2[k]? = some x → x = .no ∨ ρ'[k]? = some x) ∧ (∀ (k l : Nat), ρ2[k]? = some (.c l) → l < μ.length) ∧ N ρ2 μ) R) (hi : Nat.ble (i + 1) ρ.length = true := by rfl) :
    SvP W (tSeq (tAsg te (gName i)) t2) ρ μ N R := fun σ H E s qn qr =>
  h σ H s _ fun p H1 c hp e1 s1 p1 => by
    have f : Fr W p := s.sto.fr hp
    refine k p c f p1 _ H1 E (s1.setC (Nat.le_of_ble_eq_true hi) ?_) (fun σ2 H2 ρ' μ' e2 s2 n2 => ?_) fun v H2 d μ2 e2 s2 r2 p2 => qr v H2 d _ (Ch.ext hp e2 e1) (s2.cut f) r2 p2
    · show (W.A ++ [p])[μ.length]? = some p
      rw [s.sto.len, List.getElem?_append_right (Nat.le_refl _), Nat.sub_self]
      rfl
    · obtain ⟨c', ρ2, rfl, hl, hf, hc, hn⟩ := n2
      exact qn σ2 H2 ρ2 μ (Ch.ext hp e2 e1) (Stt.drop f (s2.forget hl hf) hc) hn
end
def spLaw (K : PySem.W.Frag) (CN PT : Addr) : Sp := fun vs H Q _ => ∃ (a : Addr) (ns : List Int), vs = [.ref a] ∧ ScrOk K ns (fun b => b = PT) H a ∧ CellOk CN (fun b => b = PT) H PT (.tab qLam) ∧ ∀ H', Q (.bl true) H'
section
variable {P : Program} {w : World} {K : PySem.W.Frag} {mg : Str → Option Value} {base : Heap} {CN CP CR fI PT c : Addr} {f fm fi : Addr} {fd fdm fdi : FuncData} {params : Arguments} {body : List Stmt} {scope : Scope}
theorem ok_law (B : Bf mg) (g_Net : mg "Net" = some (.ref CN)) (MN : Mk K CN fi) (FI : FnOk P w K mg base CX0 10 fi fdi ["self", "knots", "wires"] (spInit CN)) (BI : Binds K fdi ["self", "knots", "wires"] [])
    (C_law_urn : Cal P w K mg base CX0 1 "_law_urn" ["_law_script", "_law_spot"] (spUrn K)) (C_law_right : CalG P w K mg base CX0 12 "_law_right" ["_law_urn_here"] (spRight CN PT qLam))
    (C_most_apart : Cal P w K mg base (L2.CX P w) 7 "most_apart" ["net", "ranges", "start", "goal"] (spMost CN CR)) (C_is_most_apart : Cal P w K mg base (L2.CX P w) 7 "is_most_apart" ["net", "ranges", "start", "goal", "value"] (spIsMost CN CR))
    (F : FnP K "law" s_law f fd) : FnOkG P w K mg base CX0 13 f fd ["_law_script"] (spLaw K CN PT) := by
  refine F.okG sc_law (fun vs H Q E h => ?_) fun cdv A outer s H vs Q E hr hgd h => ?_
  · obtain ⟨a, ns, rfl, _⟩ := h
    rfl
  obtain ⟨a, ns, rfl, hs, ht, hq⟩ := h
  refine ⟨_, PSs.nox (X := cxOf CX0 P w K mg base n_law "law" (defScope s_law) f cdv A outer s H E) (pss_cons (ps_for PassesOwn.never rfl (pi_range1 rfl B.b_range (pa_cons (pe_max2 rfl B.b_max pe_int (pe_min2 rfl B.b_min pe_int (pe_len B.b_len (pv 0)))) pa_nil)) (pg_name (i := 1) sc_law.nd rfl (by first | exact Or.inl rfl | exact Or.inr rfl)) (pss_cons (ps_set (i := 4) sc_law.nd rfl (by first | exact Or.inl rfl | exact Or.inr rfl) (pe_own C_law_urn (hr.mono (by decide)) rfl pass0 (pa_cons (pv 0) (pa_cons (pv 1) pa_nil)))) (pss_one (ps_if (pt_cmpR (op_neP hr.units) (pe_lc (own := [("_law_turn", 7)]) (g := (gName 7)) rfl sc_law.nd (pi_range1 rfl B.b_range (pa_cons pe_int pa_nil)) (blkOk_by (own := [("_law_turn", 7)]) (N := n_law) (sc := defScope s_law) (by decide +kernel)) (fun _ _ _ _ _ => (pg_name (i := 7) sc_law.nd rfl (by first | exact Or.inl rfl | exact Or.inr rfl))) (fun _ _ _ _ _ => (pts_one (pt_not (pt_val (pe_ownG C_law_right (hr.mono (by decide)) hgd rfl pass0 (pa_cons (pv 4) pa_nil)))))) (fun _ _ _ _ _ => pe_int)) (pe_lst pa_nil) (nomark _)) (pss_one (ps_ret pe_bl)) pss_nil)))) (pss_cons (ps_set (i := 2) sc_law.nd rfl (by first | exact Or.inl rfl | exact Or.inr rfl) (pe_tup (pa_cons pe_str (pa_cons (pe_tup (pa_cons (pe_tup (pa_cons pe_int (pa_cons (pe_un un_neg pe_int) pa_nil))) (pa_cons (pe_tup (pa_cons pe_int (pa_cons pe_int pa_nil))) (pa_cons (pe_tup (pa_cons pe_int (pa_cons pe_int pa_nil))) (pa_cons (pe_tup (pa_cons pe_int (pa_cons pe_int pa_nil))) (pa_cons (pe_tup (pa_cons pe_int (pa_cons pe_int pa_nil))) (pa_cons (pe_tup (pa_cons pe_int (pa_cons pe_int pa_nil))) pa_nil))))))) pa_nil)))) (pss_cons (ps_par (i := 5) (j := 6) rfl sc_law.nd rfl rfl (by decide) rfl rfl (pa_cons (pe_make MN FI (hr.mono (by decide)) rfl g_Net BI .nil pass0 (pa_cons pe_int (pa_cons (pe_tup (pa_cons (pe_tup (pa_cons pe_int (pa_cons pe_int (pa_cons (pv 2) pa_nil)))) (pa_cons (pe_tup (pa_cons pe_int (pa_cons pe_int (pa_cons (pv 2) pa_nil)))) pa_nil))) pa_nil))) (pa_cons (pe_tup (pa_cons (pe_tup (pa_cons pe_int (pa_cons pe_int pa_nil))) (pa_cons (pe_tup (pa_cons pe_int (pa_cons pe_non pa_nil))) pa_nil))) pa_nil)) (by rfl)) (pss_cons (ps_set (i := 3) sc_law.nd rfl (by first | exact Or.inl rfl | exact Or.inr rfl) (pe_lst (pa_cons (pe_own C_most_apart (hr.mono (by decide)) rfl passX0 (pa_cons (pv 5) (pa_cons (pv 6) (pa_cons pe_int (pa_cons pe_int pa_nil))))) (pa_cons (pe_own C_most_apart (hr.mono (by decide)) rfl passX0 (pa_cons (pv 5) (pa_cons (pv 6) (pa_cons pe_int (pa_cons pe_int pa_nil))))) pa_nil)))) (pss_cons (ps_if (pt_cmpR (op_neP hr.units) (pv 3) (pe_lst (pa_cons (pe_tup (pa_cons pe_str (pa_cons (pe_un un_neg pe_int) (pa_cons (pe_tup (pa_cons (pe_tup (pa_cons pe_int (pa_cons pe_int pa_nil))) (pa_cons (pe_tup (pa_cons pe_int (pa_cons pe_int pa_nil))) pa_nil))) pa_nil)))) (pa_cons (pe_tup (pa_cons pe_str (pa_cons (pe_tup (pa_cons pe_int (pa_cons pe_int pa_nil))) pa_nil))) pa_nil))) (nomark _)) (pss_one (ps_ret pe_bl)) pss_nil) (pss_cons (ps_set (i := 3) sc_law.nd rfl (by first | exact Or.inl rfl | exact Or.inr rfl) (pe_lst (pa_cons (pe_own C_is_most_apart (hr.mono (by decide)) rfl passX0 (pa_cons (pv 5) (pa_cons (pv 6) (pa_cons pe_int (pa_cons pe_int (pa_cons (pe_tup (pa_cons pe_str (pa_cons pe_int (pa_cons (pe_tup (pa_cons (pe_tup (pa_cons pe_int (pa_cons (pe_un un_neg pe_int) pa_nil))) pa_nil)) pa_nil)))) pa_nil)))))) (pa_cons (pe_own C_is_most_apart (hr.mono (by decide)) rfl passX0 (pa_cons (pv 5) (pa_cons (pv 6) (pa_cons pe_int (pa_cons pe_int (pa_cons (pe_tup (pa_cons pe_str (pa_cons pe_int (pa_cons (pe_tup pa_nil) pa_nil)))) pa_nil)))))) pa_nil)))) (pss_one (ps_ret (pe_and (pe_cmpR (op_eqP hr.units) (pv 3) (pe_lst (pa_cons pe_bl (pa_cons pe_bl pa_nil))) (nomark _)) (pe_one (pe_not (pe_own C_is_most_apart (hr.mono (by decide)) rfl passX0 (pa_cons (pv 5) (pa_cons (pv 6) (pa_cons pe_int (pa_cons pe_int (pa_cons (pe_tup (pa_cons pe_str (pa_cons (pe_tup (pa_cons pe_int pa_nil)) pa_nil))) pa_nil))))))))))))))))), ?_⟩
  have st : Stt ⟨CN, fun b => b = PT, fun b => b = PT, [PT], 1⟩ (L2.start n_law [.ref a]) H [.s K ns, .no, .no, .no, .no, .no, .no, .no] [.tab qLam] := by
    refine ⟨⟨fun j c h => ?_, fun b h => ?_, fun b h => h, fun b h => List.mem_singleton.mp h, by simp, rfl, Nat.le_refl _⟩, fun k x h => ?_, rfl⟩
    · match j, h with
      | 0, h => cases h; exact ⟨PT, rfl, ht⟩
    · obtain ⟨ps, e, _⟩ := ht
      rw [show b = PT from h, e]
      intro z
      cases z
    · cases k with
      | zero => cases h; exact ⟨a, rfl, hs⟩
      | succ k =>
        have h' : (List.replicate 7 Sl.no)[k]? = some x := h
        rw [List.getElem?_replicate] at h'
        split at h'
        · cases h'
          trivial
        · cases h'
  refine SvP.use (W := ⟨CN, fun b => b = PT, fun b => b = PT, [PT], 1⟩) (N := fun _ _ => False) (R := fun d _ => d = .bl true) ?_ st (fun _ _ _ _ _ _ n => n.elim) fun v H' d μ' e s' r' n => ?_
  · have hN : (if (if (ns.length : Int) < 3 then (ns.length : Int) else 3) > 1 then (if (ns.length : Int) < 3 then (ns.length : Int) else 3) else 1).toNat ≤ 3 := by
      split <;> split <;> omega
    refine sv_seq (N1 := fun ρ' μ' => ∃ a, ρ' = [.s K ns, a, .no, .no, .no, .no, .no, .no] ∧ μ' = [.tab qLam]) (sv_for (fun i ρ' μ' => ∃ a, ρ' = [.s K ns, a, .no, .no, .no, .no, .no, .no] ∧ μ' = [.tab qLam]) (iv_rng (ea_cons (ev_max2 ev_int (ev_min2 ev_int (ev_lenS rfl))) ea_nil) (by split <;> split <;> omega)) ⟨.no, rfl, rfl⟩ (fun i d ρ' μ' hd inv => ?_) fun ρ' μ' h => h) fun ρ' μ' h => ?_
    · obtain ⟨a, rfl, rfl⟩ := inv
      have hi := (List.getElem?_eq_some_iff.mp hd).1
      rw [upto_len] at hi
      rw [upto_get hi] at hd
      cases hd
      refine gv_name (sv_newN (i := 4) (ef_urn (n := i) rfl rfl (by omega)) fun p c' fr hc => ?_)
      rw [show c' = .urn from hc]
      refine sv_if (b := false) (EvB.to (eb_T (ev_op1 (x := .lst []) (y := .lst []) (z := .bl false) (EvP.imp (ev_lcN (PD := Is (upto 4)) (fun _ _ acc => acc = []) (iv_rng (ea_cons ev_int ea_nil) (by decide)) (wp_name (by decide)) (fun ds h => by rw [show ds = _ from h]; decide) (fun _ _ => rfl) fun ds i d p acc hp hd hI => gv_name ⟨rfl, false, EvB.to (eb_not (eb_B (ev_callR (j := 1) (jt := 0) rfl rfl rfl rfl))) rfl, (fun h => nomatch h), fun _ => hI⟩) fun d hd => ?_) (ev_lst1 ea_nil) (od_neP rfl rfl (.inl (by decide))))) rfl) (fun h => nomatch h) fun _ => sv_next ⟨.urn, [.s K ns, .d (.int (i : Int)), .no, .no, .no, .no, .no, .no], rfl, rfl, fun k x h => ?_, fun k l h => ?_, ⟨_, rfl, rfl⟩⟩
      · obtain ⟨ds, es, _, rfl, _, h⟩ := hd
        rw [h]
        rfl
      · match k, h with
        | 0, h => exact .inr h
        | 1, h => exact .inr h
        | 2, h => exact .inl (by cases h; rfl)
        | 3, h => exact .inl (by cases h; rfl)
        | 4, h => exact .inl (by cases h; rfl)
        | 5, h => exact .inl (by cases h; rfl)
        | 6, h => exact .inl (by cases h; rfl)
        | 7, h => exact .inl (by cases h; rfl)
        | k + 8, h => cases h
      · match k, h with
        | 0, h => cases h
        | 1, h => cases h
        | 2, h => cases h
        | 3, h => cases h
        | 4, h => cases h
        | 5, h => cases h
        | 6, h => cases h
        | 7, h => cases h
        | k + 8, h => cases h
    obtain ⟨a, rfl, rfl⟩ := h
    have pt : ∀ {W : Wd} {ρ : List Sl} {μ : List Cell} {ta tb : TE} {i j : Int}, EvP W ta ρ μ (Is (.int i)) → EvP W tb ρ μ (Is (.int j)) → EvP W (tTup (tCons ta (tCons tb tNil))) ρ μ (Is (ptD (i, j))) := fun h1 h2 => ev_tup1 (ea_cons h1 (ea_cons h2 ea_nil)) (Nat.le_of_ble_eq_true rfl)
    refine sv_let1 (i := 2) (d := stR.d) (ev_tup1 (ea_cons ev_str (ea_cons (ev_tup1 (ea_cons (pt ev_int (ev_un ev_int)) (ea_cons (pt ev_int ev_int) (ea_cons (pt ev_int ev_int) (ea_cons (pt ev_int ev_int) (ea_cons (pt ev_int ev_int) (ea_cons (pt ev_int ev_int) ea_nil)))))) (Nat.le_of_ble_eq_true rfl)) ea_nil)) (Nat.le_of_ble_eq_true rfl)) ?_
    have wr : ∀ {W : Wd} {ρ : List Sl} {μ : List Cell} {ta tb : TE} {i j : Int}, ρ[2]? = some (.d stR.d) → EvP W ta ρ μ (Is (.int i)) → EvP W tb ρ μ (Is (.int j)) → EvP W (tTup (tCons ta (tCons tb (tCons (tVar 2) tNil)))) ρ μ (Is (.tup [.int i, .int j, stR.d])) := fun h0 h1 h2 => ev_tup1 (ea_cons h1 (ea_cons h2 (ea_cons (ev_var h0) ea_nil))) (Nat.le_of_ble_eq_true rfl)
    refine sv_seq (N1 := fun ρ' μ' => ρ' = [.s K ns, a, .d stR.d, .no, .no, .d exN.d, .d (rsD exR), .no] ∧ μ' = [.tab qLam]) (sv_par (Pa := Is exN.d) (Pb := Is (rsD exR)) (ev_net exN (ea_cons ev_int (ea_cons (ev_tup1 (ea_cons (wr rfl ev_int ev_int) (ea_cons (wr rfl ev_int ev_int) ea_nil)) (Nat.le_of_ble_eq_true rfl)) ea_nil)) exN_ok) (fun _ _ => ev_tup1 (ea_cons (ev_tup1 (ea_cons ev_int (ea_cons ev_int ea_nil)) (Nat.le_of_ble_eq_true rfl)) (ea_cons (ev_tup1 (ea_cons ev_int (ea_cons ev_non ea_nil)) (Nat.le_of_ble_eq_true rfl)) ea_nil)) (Nat.le_of_ble_eq_true rfl)) fun d e hd he => ?_) fun ρ' μ' h => ?_
    · rw [show d = _ from hd, show e = _ from he]
      exact ⟨rfl, rfl⟩
    obtain ⟨rfl, rfl⟩ := h
    refine sv_let1 (i := 3) (d := .lst [.tup [.str "most", .int (-1), stepsD [(0, 1), (1, 1)]], .tup [.str "endless", .tup [.int 0, .int 1]]]) (ev_lst1 (ea_cons (ev_callX (FarA.mk exN exR 0 2) (ea_cons (ev_var rfl) (ea_cons (ev_var rfl) (ea_cons ev_int (ea_cons ev_int ea_nil)))) (exQ (by decide) (by decide)) (fun d h => ex02 h.2) (fits_not exFits)) (ea_cons (ev_callX (FarA.mk exN exR 2 0) (ea_cons (ev_var rfl) (ea_cons (ev_var rfl) (ea_cons ev_int (ea_cons ev_int ea_nil)))) (exQ (by decide) (by decide)) (fun d h => ex20 h.2) (fits_not exFits)) ea_nil)) (Nat.le_of_ble_eq_true rfl)) ?_
    refine sv_guard (b := false) (EvB.to (eb_T (ev_op1 (ev_var (x := .lst [.tup [.str "most", .int (-1), stepsD [(0, 1), (1, 1)]], .tup [.str "endless", .tup [.int 0, .int 1]]]) rfl) (ev_lst1 (ea_cons (ev_tup1 (ea_cons ev_str (ea_cons (ev_un ev_int) (ea_cons (ev_tup1 (ea_cons (pt ev_int ev_int) (ea_cons (pt ev_int ev_int) ea_nil)) (Nat.le_of_ble_eq_true rfl)) ea_nil))) (Nat.le_of_ble_eq_true rfl)) (ea_cons (ev_tup1 (ea_cons ev_str (ea_cons (ev_tup1 (ea_cons ev_int (ea_cons ev_int ea_nil)) (Nat.le_of_ble_eq_true rfl)) ea_nil)) (Nat.le_of_ble_eq_true rfl)) ea_nil)) (Nat.le_of_ble_eq_true rfl)) (od_neP rfl rfl (.inl (by decide +kernel))))) (by decide +kernel)) (fun h => nomatch h) fun _ => ?_
    refine sv_let1 (i := 3) (d := .lst [.bl true, .bl true]) (ev_lst1 (ea_cons (ev_callX (FarV.mk ⟨exN, exR, 1, 0⟩ (.tup [.str "most", .int 3, .tup [.tup [.int 0, .int (-1)]]])) (ea_cons (ev_var rfl) (ea_cons (ev_var rfl) (ea_cons ev_int (ea_cons ev_int (ea_cons (ev_tup1 (ea_cons ev_str (ea_cons ev_int (ea_cons (ev_tup1 (ea_cons (pt ev_int (ev_un ev_int)) ea_nil) (Nat.le_of_ble_eq_true rfl)) ea_nil))) (Nat.le_of_ble_eq_true rfl)) ea_nil))))) ⟨exQ (by decide) (by decide), exFits, rfl⟩ (fun d h => by rw [show d = _ from h, exFar1]; rfl) fun _ h => h) (ea_cons (ev_callX (FarV.mk ⟨exN, exR, 0, 0⟩ (.tup [.str "most", .int 0, .tup []])) (ea_cons (ev_var rfl) (ea_cons (ev_var rfl) (ea_cons ev_int (ea_cons ev_int (ea_cons (ev_tup1 (ea_cons ev_str (ea_cons ev_int (ea_cons (ev_tup1 ea_nil) ea_nil))) (Nat.le_of_ble_eq_true rfl)) ea_nil))))) ⟨exQ (by decide) (by decide), exFits, rfl⟩ (fun d h => by rw [show d = _ from h, exFar2]; rfl) fun _ h => h) ea_nil)) (Nat.le_of_ble_eq_true rfl)) ?_
    refine sv_ret1 (EvP.to (ev_andV (a := true) (b := true) (EvP.to (ev_op1 (ev_var (x := .lst [.bl true, .bl true]) rfl) (ev_lst1 (ea_cons ev_bl (ea_cons ev_bl ea_nil)) (Nat.le_of_ble_eq_true rfl)) (od_eqP rfl rfl (.inl (by decide +kernel)))) (congrArg D.bl (by decide +kernel))) fun _ => EvP.to (ev_notV (a := false) (ev_callX (FarV.mk ⟨exN, exR, 2, 0⟩ (.tup [.str "endless", .tup [.int 0]])) (ea_cons (ev_var rfl) (ea_cons (ev_var rfl) (ea_cons ev_int (ea_cons ev_int (ea_cons (ev_tup1 (ea_cons ev_str (ea_cons (ev_tup1 (ea_cons ev_int ea_nil) (Nat.le_of_ble_eq_true rfl)) ea_nil)) (Nat.le_of_ble_eq_true rfl)) ea_nil))))) ⟨exQ (by decide) (by decide), exFits, rfl⟩ (fun d h => by rw [show d = _ from h, exFar3]; rfl) fun _ h => h)) rfl) rfl) rfl
  · rw [n] at r'
    rw [show v = .bl true from r']
    exact hq H'
end
end RN
end

section
set_option Elab.async false
set_option linter.all false
set_option maxRecDepth 100000
set_option maxHeartbeats 4000000
set_option autoImplicit false
/-! RN_End: the law's end: one table of code objects, no repr under way. -/
namespace RN
open PySem PySem.Spec PyProof.Rows L2 LamX
theorem law_callP {P : Program} {w : World} {K : PySem.W.Frag} {mg mb : Str → Option Value} {CX : CXT} {k : Nat} {fa a c PT : Addr} {fd : FuncData} {x : Str} {sp : Sp} {s₁ : Shared} {vs : List Value} {ns : List Int}
    (KX : K.In s₁.heap) (hns : s₁.heap.Ns mainGlobals mg) (hb : s₁.heap.Ns builtinsNs mb) (hbb : ∀ x : Str, x ≠ "__name__" → mb x = bootBuiltins x) (hlim : s₁.heap.NoLimit) (hg : s₁.gens = #[])
    (hT : s₁.heap.get? PT = some { cls := .none, data := .fields #[] }) (nT : K.lookup PT = none) (hC : PySem.W.CodeHd s₁.heap c PT)
    (hbm : ∃ (bm : Addr) (ob : Obj), mg "__builtins__" = some (.ref bm) ∧ bm ≠ builtinsNs ∧ s₁.heap.get? bm = some ob ∧ ob.cls = .type "module" ∧ ob.dict = some builtinsNs ∧ ob.data = .plain)
    (ha : s₁.heap.get? a = some { cls := .type "list", data := .seq vs.toArray }) (hi : IntsAre vs ns) (hl : ns.length ≤ sizeLine) (hr : Room k callerA)
    (F : ∀ base : Heap, K.In base → base.Ns mainGlobals mg → TabB base mg c PT → FnOkG P w K mg base CX k fa fd [x] sp) (hbind : ∀ (s : Shared) (u : Value), BindsTo s fd ⟨[u], []⟩ [(x, u)])
    (hsp : ∀ H : Hp, H PT = some (.tbl #[]) → ScrOk K ns (fun b => b = PT) H a → sp [.ref a] H (fun v _ => v = .bl true) fun _ _ _ => False) (hCX : ∀ H e s', CX [] H s₁ (fun _ _ _ => False) e s' → False) :
    codeAny (model P w) callerA (.call (.ref fa) ⟨[.ref a], []⟩) (fun r s' => r = .ok (.ret (.bool true)) ∧ OldK s₁.heap s'.heap ∧ s'.os = s₁.os ∧ AllBare s'.gens) s₁ := by
  have rv := vals_ints hi
  have lenV := hi.length
  have aT : a ≠ PT := fun z => by
    rw [z, hT] at ha
    have z' : Data.fields #[] = Data.seq vs.toArray _ := congrArg Obj.data (Option.some.inj ha)
    cases z'
  have core : ∀ H : Hp, H PT = some (.tbl #[]) → (∀ b, H b = none ∨ b = PT ∨ ∃ o xs, H b = some (.frz o (.lst xs))) → ScrOk K ns (fun b => b = PT) H a → HOk P w H s₁.heap → (∀ b, H b ≠ none → b = a ∨ b = PT) → (H a ≠ none → K.lookup a = none) →
      codeAny (model P w) callerA (.call (.ref fa) ⟨[.ref a], []⟩) (fun r s' => r = .ok (.ret (.bool true)) ∧ OldK s₁.heap s'.heap ∧ s'.os = s₁.os ∧ AllBare s'.gens) s₁ := by
    intro H hH hO hS hok hA hK
    have base_of : ∀ {b : Addr} {o : Obj}, s₁.heap.get? b = some o → H b = none → (hidT s₁.heap H).get? b = some o := fun e n => hidT_get e n
    have noD : ∀ {b : Addr} {o : Obj}, s₁.heap.get? b = some o → (∀ vs n, o.data ≠ .seq vs n) → o.data ≠ .fields #[] → H b = none := fun {b o} e h1 h2 => by
      cases q : H b with
      | none => rfl
      | some u =>
        rcases hA b (by rw [q]; simp) with rfl | rfl
        · rw [ha] at e
          cases e
          exact (h1 _ _ rfl).elim
        · rw [hT] at e
          cases e
          exact (h2 rfl).elim
    have nsK : ∀ {b : Addr} {m : Str → Option Value}, s₁.heap.Ns b m → (hidT s₁.heap H).Ns b m := fun {b m} ⟨o, es, ep, e, d, r⟩ => ⟨o, es, ep, base_of e (noD e (fun vs n z => by rw [d] at z; cases z) fun z => by rw [d] at z; cases z), d, r⟩
    have hKb : K.In (hidT s₁.heap H) := fun b o e => base_of (KX b o e) (by
      cases q : H b with
      | none => rfl
      | some u =>
        rcases hA b (by rw [q]; simp) with rfl | rfl
        · rw [hK (by rw [q]; simp)] at e
          cases e
        · rw [nT] at e
          cases e)
    have hM : L2.Mod K mg (hidT s₁.heap H) := ⟨hKb, nsK hns, ⟨mb, nsK hb, hbb⟩, let ⟨mc, h1, h2⟩ := hlim; ⟨mc, nsK h1, h2⟩⟩
    have TB : TabB (hidT s₁.heap H) mg c PT := by
      refine ⟨?_, ?_, fun z => ?_⟩
      · obtain ⟨o, us, file, tf, flags, tg, inF, text, tt, e1, r1, r2, r3, r4, r5, r6, r7, r8, hne⟩ := hC
        refine ⟨o, us, file, tf, flags, tg, inF, text, tt, base_of e1 (noD e1 (fun vs n z => ?_) fun z => ?_), r1, r2, r3, r4, r5, r6, r7, r8, hne⟩
        · rw [r2] at z
          cases z
        · rw [r2] at z
          cases z
          simp at r3
      · obtain ⟨bm, ob, b1, b2, b3, b4, b5, b6⟩ := hbm
        refine ⟨bm, ob, b1, b2, fun q => ?_, fun q => ?_, base_of b3 (noD b3 (fun vs n z => ?_) fun z => ?_), b4, b5, b6⟩
        · obtain ⟨o, es, ep, e, hd, _⟩ := hns
          rw [q, e] at b3
          cases b3
          rw [hd] at b6
          cases b6
        · rw [q, hT] at b3
          cases b3
          cases b6
        · rw [b6] at z
          cases z
        · rw [b6] at z
          cases z
      · obtain ⟨o, es, ep, e, hd, _⟩ := hns
        rw [z, hT] at e
        cases e
        cases hd
    have e0 : Env0 P w K mg (hidT s₁.heap H) callerA [] s₁ H := ⟨rfl, hM, fun b o e => of_hidT e, Nat.le_of_eq (hidT_size _ _), trivial, fun b hb => absurd (show b ∈ ([] : List Addr) from hb) (by simp), hok, .of_eq hg⟩
    refine codeAny_mono ((F _ hKb (nsK hns) TB).run callerA rfl [] s₁ H ⟨[.ref a], []⟩ [.ref a] [.ref a] _ _ hr e0 (hbind s₁ (.ref a)) (.cons rfl .nil) (hsp H hH hS)) fun r s' h => ?_
    match r, h with
    | .error e, h => exact (hCX H e s' h).elim
    | .ok .next, h => exact False.elim h
    | .ok .brk, h => exact False.elim h
    | .ok .cont, h => exact False.elim h
    | .ok (.ret u), h =>
      obtain ⟨v, H', os, bare, un, hok', r', q⟩ := h
      have q' : v = .bl true := q
      subst q'
      obtain rfl : u = Value.bool true := r'
      have key : ∀ b o, b ≠ PT → s₁.heap.get? b = some o → s'.heap.get? b = some o := fun b o nb e => by
        cases q : H b with
        | none => exact un.keep b o e q (by intro z; exact absurd (show b ∈ ([] : List Addr) from z) (by simp)) (by simp)
        | some u =>
          rcases hO b with z | z | ⟨ob, xs, z⟩
          · rw [q] at z
            cases z
          · exact absurd z nb
          · have z2 := un.frzs b ob _ z
            obtain ⟨e1, _⟩ := hok b _ z
            obtain ⟨e2, _⟩ := hok' b _ z2
            rw [e] at e1
            cases e1
            exact e2
      obtain ⟨more, hm⟩ : ∃ more : Array Value, s'.heap.get? PT = some { cls := .none, data := .fields more } := by
        obtain ⟨more, z⟩ := un.tbls PT #[] hH
        exact ⟨_, hok' PT _ z⟩
      refine ⟨rfl, ⟨fun b o e => ?_, fun b o e => ?_⟩, os, bare⟩
      · by_cases hb : b = PT
        · subst hb
          rw [hT] at e
          cases e
          exact .inr (.inl ⟨(hC.tab hT).isCodeTable, rfl, #[], more, rfl, by rw [Array.empty_append]; exact hm⟩)
        · exact .inl (key b o hb e)
      · by_cases hb : b = PT
        · subst hb
          exact ⟨_, hm⟩
        · exact ⟨o, key b o hb e⟩
  cases hk : K.lookup a with
  | some o =>
    have e := KX a o hk
    rw [ha] at e
    cases e
    refine core (fun b => if b = PT then some (.tbl #[]) else none) (if_pos rfl) (fun b => ?_) (.inr ⟨_, vs.toArray, _, hk, rfl, rfl, rfl, by rw [List.size_toArray, lenV]; exact hl, by simpa using rv⟩) (fun b u z => ?_) (fun b z => ?_) fun z => absurd (show (if a = PT then some (HO.tbl #[]) else none) = none from if_neg aT) z
    · by_cases hb : b = PT
      · exact .inr (.inl hb)
      · exact .inl (if_neg hb)
    · by_cases hb : b = PT
      · have z' := (if_pos hb).symm.trans z
        cases z'
        subst hb
        exact hT
      · have z' := (if_neg hb).symm.trans z
        cases z'
    · by_cases hb : b = PT
      · exact .inr hb
      · exact absurd (if_neg hb) z
  | none =>
    refine core (fun b => if b = a then some (.frz { cls := .type "list", data := .seq vs.toArray } (.lst (ns.map V.int))) else if b = PT then some (.tbl #[]) else none) ((if_neg (Ne.symm aT)).trans (if_pos rfl)) (fun b => ?_) (.inl ⟨aT, _, if_pos rfl⟩) (fun b u z => ?_) (fun b z => ?_) fun _ => hk
    · by_cases hb : b = a
      · exact .inr (.inr ⟨_, _, if_pos hb⟩)
      · by_cases hb2 : b = PT
        · exact .inr (.inl hb2)
        · exact .inl ((if_neg hb).trans (if_neg hb2))
    · by_cases hb : b = a
      · have z' := (if_pos hb).symm.trans z
        cases z'
        subst hb
        exact ⟨ha, by rw [List.length_map]; exact hl, vs, _, rv, ha⟩
      · have z1 := (if_neg hb).symm.trans z
        by_cases hb2 : b = PT
        · have z' := (if_pos hb2).symm.trans z1
          cases z'
          subst hb2
          exact hT
        · have z' := (if_neg hb2).symm.trans z1
          cases z'
    · by_cases hb : b = a
      · exact .inl hb
      · by_cases hb2 : b = PT
        · exact .inr hb2
        · exact absurd ((if_neg hb).trans (if_neg hb2)) z
theorem walk_ofP {l : PySem.W.OpenLaw} {n k : Nat} {q : Program} {loose : List Str} {XP : (Str → Option Value) → Heap → Prop} {YP : World → Heap → Prop} {d : DefRec} {CX : World → CXT} {x : Str}
    (hn : l.most = some n) (hn2 : n ≤ sizeLine) (hdf : d.params.defaults = []) (hr : Room k callerA)
    (F : ∀ (w : World) (mg : Str → Option Value) (fa : Addr) (h : Heap), YP w h → h.Ns mainGlobals mg → mg d.name = some (.ref fa) → ∃ (K : PySem.W.Frag) (fd : FuncData) (c PT : Addr) (sp : Sp), K.In h ∧ h.get? PT = some { cls := .none, data := .fields #[] } ∧ K.lookup PT = none ∧ PySem.W.CodeHd h c PT ∧ (∀ (s : Shared) (u : Value), BindsTo s fd ⟨[u], []⟩ [(x, u)]) ∧
      (∀ (H : Hp) (a : Addr) (ns : List Int), H PT = some (.tbl #[]) → ScrOk K ns (fun b => b = PT) H a → sp [.ref a] H (fun v _ => v = .bl true) fun _ _ _ => False) ∧ ∀ base : Heap, K.In base → base.Ns mainGlobals mg → TabB base mg c PT → FnOkG l.prog w K mg base (CX w) k fa fd [x] sp)
    (hCX : ∀ (w : World) (H : Hp) (s : Shared) (e : Value) (s' : Shared), CX w [] H s (fun _ _ _ => False) e s' → False) : PySem.W.WalkO q loose XP YP l.row.toRowW d [] (fun f vs => PySem.call f vs) := by
  refine Att.attach_callB hn hdf fun w s₀ s₁ mg mb fa o pm cd doc a vs ns G Y ho hd hcd hmg hobj hints hlen hbits hg => ?_
  obtain ⟨K, fd, c, PT, sp, KX, hT, nT, hC, hb, hsp, hF⟩ := F w mg fa _ Y G.T.g hmg
  exact law_callP KX G.T.g G.T.b G.T.builtins G.T.nolimit hg hT nT hC G.T.bmain hobj hints (Nat.le_trans hlen hn2) hr hF hb (fun H hH hS => hsp H a ns hH hS) fun H e s' => hCX w H s₁ e s'
end RN
end

section
set_option Elab.async false
set_option linter.all false
set_option maxRecDepth 100000
set_option maxHeartbeats 4000000
set_option autoImplicit false
/-! RN_Ex: what is asked of the written part besides the defs and names: the classes Net and Refused. -/
namespace RN
open PySem PySem.Spec PyProof.Rows L2 PySem.RNX
theorem refT : RefT (defArgs s_Refused_init) (defBody s_Refused_init) (defScope s_Refused_init) where
  text := ⟨_, _, _, _, _, _, _, _, _, _, rfl, fun L f cdv cc => ⟨⟨_, rfl⟩, rfl, rfl⟩⟩
  inter := fun _ _ _ _ => rfl
  bind := fun _ _ _ _ _ _ _ _ _ => rfl
  head := ⟨_, rfl, rfl⟩
  sup := rfl
  cls := rfl
  self := rfl
  reason := rfl
  cell := by decide +kernel
  co := rfl
  gen := rfl
  kind := rfl
theorem slotB_ok {K : PySem.W.Frag} {f : Str} {i : Nat} (hi : i < 1000) (h : slotB K f i = true) : SlX.Slot1 K (CN_ K) f (He.ma K (CN_ K) f) i := by
  obtain ⟨h1, h⟩ := He.ba h
  obtain ⟨h2, h⟩ := He.ba h
  obtain ⟨h3, h⟩ := He.ba h
  obtain ⟨h4, h5⟩ := He.ba h
  exact ⟨He.eqO_ok h1, He.eqO_ok h2, of_decide_eq_true h3, of_decide_eq_true h4, of_decide_eq_true h5, hi⟩
theorem funB_ok {K : PySem.W.Frag} {a : Addr} {name qual : Str} {st : Stmt} (e : fnA K a = fnV name qual st) (h : funB K a qual = true) : ∃ fd, FunD K name qual (defArgs st) (defBody st) (defScope st) [] [] a fd := by
  obtain ⟨h1, h⟩ := He.ba h
  unfold fnA fnV at e
  cases q : K.lookup a with
  | none =>
    rw [q] at h
    cases h
  | some o =>
    obtain ⟨oc, od, dt, osl⟩ := o
    rw [q] at h e
    cases dt with
    | func fd =>
      obtain ⟨nm, qn, pa, bo, sc, gl, cl, df, kd, dc, pm, an, cd, ct, bu⟩ := fd
      obtain ⟨h2, h⟩ := He.ba h
      obtain ⟨h3, h4⟩ := He.ba h
      have e' := Option.some.inj e
      simp only [Prod.mk.injEq] at e'
      obtain ⟨rfl, rfl, rfl, rfl, rfl, rfl, _, rfl⟩ := e'
      have h3' : cl = [] := List.isEmpty_iff.mp h3
      subst h3'
      cases df with
      | none => exact ⟨_, ⟨_, _, _, _, _, _, _, _, _, _, rfl, q, h2, .inl ⟨rfl, rfl⟩, .inl rfl⟩, h1⟩
      | _ => cases h4
    | _ => cases h
theorem propB_ok {K : PySem.W.Frag} {f q : Str} (h : propB K f q = true) : PropF K (CN_ K) f (He.ma K (CN_ K) f) (gA f K) ∧ funB K (gA f K) q = true := by
  obtain ⟨h1, h⟩ := He.ba h
  obtain ⟨h2, h⟩ := He.ba h
  obtain ⟨h3, h⟩ := He.ba h
  obtain ⟨h4, h5⟩ := He.ba h
  refine ⟨⟨He.eqO_ok h1, He.eqO_ok h2, of_decide_eq_true h3, ?_⟩, h5⟩
  unfold gA
  cases q : PySem.W.recIn K (He.ma K (CN_ K) f) "property" with
  | none =>
    rw [q] at h4
    cases h4
  | some l =>
    rw [q] at h4
    cases l with
    | nil => cases h4
    | cons x l =>
      cases x with
      | ref g => exact ⟨l, rfl⟩
      | _ => cases h4
theorem netB_ok {K : PySem.W.Frag} (h : netB K = true) : NetF K (CN_ K) (He.ga K "Parts") := by
  obtain ⟨h1, h⟩ := He.ba h
  obtain ⟨h2, h⟩ := He.ba h
  obtain ⟨h3, h4⟩ := He.ba h
  obtain ⟨a1, h1⟩ := He.ba h1
  obtain ⟨a2, h1⟩ := He.ba h1
  obtain ⟨a3, a4⟩ := He.ba h1
  obtain ⟨b1, b2⟩ := He.ba h2
  obtain ⟨c1, h3⟩ := He.ba h3
  obtain ⟨c2, h3⟩ := He.ba h3
  obtain ⟨c3, c4⟩ := He.ba h3
  obtain ⟨d1, d2⟩ := He.ba h4
  exact ⟨⟨a1, a2, a3, He.eqO_ok a4⟩, ⟨_, slotB_ok (by decide) b1⟩, ⟨_, slotB_ok (by decide) b2⟩, ⟨He.eqO_ok c1, He.eqO_ok c2, of_decide_eq_true c3, of_decide_eq_true c4⟩, of_decide_eq_true d1, of_decide_eq_true d2⟩
theorem refL_ok {P : Program} {K : PySem.W.Frag} (e : fnA K (iA K) = fnV "__init__" "Refused.__init__" s_Refused_init) (h : refL P.main.file K = true) : ∃ (oc : Value) (od : Option Addr) (osl : Array (Option Value)) (kV doc pm : Value) (an : Option Addr) (ct : Value) (cda cc : Addr) (ccl : Value) (cdd : Option Addr) (ccs : Array (Option Value)) (vs : Array Value) (file : Str) (tf : Tok) (cl : Value) (cld : Option Addr) (csl : Array (Option Value)),
    K.lookup (iA K) = some ⟨oc, od, .func (PySem.W.ksFn "__init__" "Refused.__init__" (defArgs s_Refused_init) (defBody s_Refused_init) (defScope s_Refused_init) .none kV doc pm an (.ref cda) ct cc), osl⟩ ∧ PySem.W.codeIn K (.ref cda) "Refused.__init__" = true ∧ K.lookup cda = some ⟨ccl, cdd, .fields vs, ccs⟩ ∧ vs[2]? = some (.str file tf) ∧ ((P.main.file : Str) == file) = true ∧ K.lookup cc = some ⟨cl, cld, .cell (some (.ref (CR_ K))), csl⟩ := by
  unfold refL at h
  unfold fnA fnV at e
  cases q : K.lookup (iA K) with
  | none =>
    rw [q] at h
    cases h
  | some o =>
    obtain ⟨oc, od, dt, osl⟩ := o
    rw [q] at h e
    cases dt with
    | func fd =>
      obtain ⟨nm, qn, pa, bo, sc, gl, cl, df, kd, dc, pm, an, cd, ct, bu⟩ := fd
      have e' := Option.some.inj e
      simp only [Prod.mk.injEq] at e'
      obtain ⟨rfl, rfl, rfl, rfl, rfl, rfl, _, rfl⟩ := e'
      cases cd with
      | ref cda =>
        match cl, h with
        | [(x, cc)], h =>
          obtain ⟨h1, h⟩ := He.ba h
          obtain ⟨h2, h⟩ := He.ba h
          obtain ⟨h3, h4⟩ := He.ba h
          have h1' : x = "__class__" ∧ df = .none := of_decide_eq_true h1
          obtain ⟨rfl, rfl⟩ := h1'
          cases q2 : K.lookup cda with
          | none =>
            rw [q2] at h3
            cases h3
          | some o2 =>
            obtain ⟨oc2, od2, dt2, osl2⟩ := o2
            rw [q2] at h3
            cases dt2 with
            | fields vs =>
              obtain ⟨l⟩ := vs
              match l, h3 with
              | a :: b :: .str z tz :: r, h3 =>
                cases q3 : K.lookup cc with
                | none =>
                  rw [q3] at h4
                  cases h4
                | some o3 =>
                  obtain ⟨oc3, od3, dt3, osl3⟩ := o3
                  rw [q3] at h4
                  cases dt3 with
                  | cell v =>
                    cases v with
                    | none => cases h4
                    | some v =>
                      cases v with
                      | ref c =>
                        have h4' : c = CR_ K := of_decide_eq_true h4
                        subst h4'
                        exact ⟨_, _, _, _, _, _, _, _, _, _, _, _, _, _, _, _, _, _, _, rfl, h2, q2, rfl, h3, q3⟩
                      | _ => cases h4
                  | _ => cases h4
            | _ => cases h3
      | _ => cases h
    | _ => cases h
theorem refB_ok {P : Program} {K : PySem.W.Frag} (e : fnA K (iA K) = fnV "__init__" "Refused.__init__" s_Refused_init) (hL : refL P.main.file K = true) (ht : (P.main.scope.names.lookup ("super" : Str)).isSome = false) (h : refB K = true) : RefF P K (CR_ K) (iA K) (defArgs s_Refused_init) (defBody s_Refused_init) (defScope s_Refused_init) := by
  obtain ⟨h1, h⟩ := He.ba h
  obtain ⟨h2, h⟩ := He.ba h
  obtain ⟨h3, h4⟩ := He.ba h
  obtain ⟨a1, h1⟩ := He.ba h1
  obtain ⟨a2, h1⟩ := He.ba h1
  obtain ⟨a3, h1⟩ := He.ba h1
  obtain ⟨a4, a5⟩ := He.ba h1
  obtain ⟨b1, h2⟩ := He.ba h2
  obtain ⟨b2, h2⟩ := He.ba h2
  obtain ⟨b3, h2⟩ := He.ba h2
  obtain ⟨b4, b5⟩ := He.ba h2
  obtain ⟨c1, h3⟩ := He.ba h3
  obtain ⟨c2, h3⟩ := He.ba h3
  obtain ⟨c3, h3⟩ := He.ba h3
  obtain ⟨c4, c5⟩ := He.ba h3
  obtain ⟨d1, h4⟩ := He.ba h4
  obtain ⟨d2, h4⟩ := He.ba h4
  obtain ⟨d3, d4⟩ := He.ba h4
  exact { lk := refL_ok e hL, cls := Option.isSome_iff_exists.mp a1, sub := of_decide_eq_true a2, noAny := He.eqO_ok a3, sup := He.eqO_ok a4, subA := of_decide_eq_true a5, top := ht, exc := b1, init := He.eqO_ok b2, fn := b3, keep := b4, sa := He.eqO_ok b5, over := c1, tk := He.eqO_ok c2, hd := c3, exC := of_decide_eq_true c4, tyC := of_decide_eq_true c5, ga := He.eqO_ok d1, gg := He.eqO_ok d2, no := He.eqO_ok d3, te := of_decide_eq_true d4 }
end RN
end

section
set_option Elab.async false
set_option linter.all false
set_option maxRecDepth 100000
set_option maxHeartbeats 0
set_option autoImplicit false
/-! RN_Fin: every def's promise from the head's facts. -/
namespace RN
open PySem PySem.Spec PyProof.Rows L2 PySem.RNX LamX
section
variable {w : World} {K : PySem.W.Frag} {h : Heap} {mg : Str → Option Value}
theorem bf_all (X : K.In h) (G : h.Ns mainGlobals mg) (c : SaysY fa fns R.prog.main.file h K) : Bf mg where
  b_ArithmeticError := He.free_ok X G (c.d.fact 0 (f := .free "ArithmeticError") rfl)
  b_IndexError := He.free_ok X G (c.d.fact 1 (f := .free "IndexError") rfl)
  b_ValueError := He.free_ok X G (c.d.fact 2 (f := .free "ValueError") rfl)
  b_abs := He.free_ok X G (c.d.fact 3 (f := .free "abs") rfl)
  b_all := He.free_ok X G (c.d.fact 4 (f := .free "all") rfl)
  b_bool := He.free_ok X G (c.d.fact 5 (f := .free "bool") rfl)
  b_dict := He.free_ok X G (c.d.fact 6 (f := .free "dict") rfl)
  b_enumerate := He.free_ok X G (c.d.fact 7 (f := .free "enumerate") rfl)
  b_int := He.free_ok X G (c.d.fact 8 (f := .free "int") rfl)
  b_isinstance := He.free_ok X G (c.d.fact 9 (f := .free "isinstance") rfl)
  b_len := He.free_ok X G (c.d.fact 10 (f := .free "len") rfl)
  b_list := He.free_ok X G (c.d.fact 11 (f := .free "list") rfl)
  b_max := He.free_ok X G (c.d.fact 12 (f := .free "max") rfl)
  b_min := He.free_ok X G (c.d.fact 13 (f := .free "min") rfl)
  b_property := He.free_ok X G (c.d.fact 14 (f := .free "property") rfl)
  b_range := He.free_ok X G (c.d.fact 15 (f := .free "range") rfl)
  b_repr := He.free_ok X G (c.d.fact 16 (f := .free "repr") rfl)
  b_set := He.free_ok X G (c.d.fact 17 (f := .free "set") rfl)
  b_sorted := He.free_ok X G (c.d.fact 18 (f := .free "sorted") rfl)
  b_str := He.free_ok X G (c.d.fact 19 (f := .free "str") rfl)
  b_sum := He.free_ok X G (c.d.fact 20 (f := .free "sum") rfl)
  b_super := He.free_ok X G (c.d.fact 21 (f := .free "super") rfl)
  b_tuple := He.free_ok X G (c.d.fact 22 (f := .free "tuple") rfl)
  b_zip := He.free_ok X G (c.d.fact 23 (f := .free "zip") rfl)
  c_SIXTY := He.int_ok X G (c.d.fact 91 (f := .int "SIXTY" (1000000000000000000000000000000000000000000000000000000000000)) rfl)
  c_MOST_CORNERS := He.int_ok X G (c.d.fact 92 (f := .int "MOST_CORNERS" (400)) rfl)
  c_FAR := He.int_ok X G (c.d.fact 93 (f := .int "FAR" (1000000000000000000)) rfl)
  c_PAIR_rises := He.int_ok X G (c.d.fact 94 (f := .int "PAIR_rises" (2)) rfl)
  c_FLAT := He.str_ok X G (c.d.fact 95 (f := .str "FLAT" "flat") rfl)
  c_STEEP := He.str_ok X G (c.d.fact 96 (f := .str "STEEP" "steep") rfl)
  c_LEVEL := He.str_ok X G (c.d.fact 97 (f := .str "LEVEL" "level") rfl)
  c_PLUMB := He.str_ok X G (c.d.fact 98 (f := .str "PLUMB" "plumb") rfl)
  c_MOST_KNOTS := He.int_ok X G (c.d.fact 99 (f := .int "MOST_KNOTS" (12)) rfl)
  c_MOST_WIRES := He.int_ok X G (c.d.fact 100 (f := .int "MOST_WIRES" (24)) rfl)
  c_MOST_TURNS := He.int_ok X G (c.d.fact 101 (f := .int "MOST_TURNS" (40)) rfl)
  c_NEAR := He.int_ok X G (c.d.fact 102 (f := .int "NEAR" (1000000000000)) rfl)
  c_TRIPLE_nets := He.int_ok X G (c.d.fact 103 (f := .int "TRIPLE_nets" (3)) rfl)
  c_PAIR_heights := He.int_ok X G (c.d.fact 104 (f := .int "PAIR_heights" (2)) rfl)
  c_TRIPLE_heights := He.int_ok X G (c.d.fact 105 (f := .int "TRIPLE_heights" (3)) rfl)
  c_FORWARD := He.int_ok X G (c.d.fact 106 (f := .int "FORWARD" (1)) rfl)
  c_BACK := He.int_ok X G (c.d.fact 107 (f := .int "BACK" (-1)) rfl)
  c_HEIGHTS := He.str_ok X G (c.d.fact 108 (f := .str "HEIGHTS" "heights") rfl)
  c_LOOP := He.str_ok X G (c.d.fact 109 (f := .str "LOOP" "loop") rfl)
  c_MOST := He.str_ok X G (c.d.fact 110 (f := .str "MOST" "most") rfl)
  c_ENDLESS := He.str_ok X G (c.d.fact 111 (f := .str "ENDLESS" "endless") rfl)
theorem top_super : (R.prog.main.scope.names.lookup ("super" : Str)).isSome = false := by decide +kernel
abbrev PT_ (K : PySem.W.Frag) : Addr := (He.cT K ("_law_right", none)).2
abbrev PC_ (K : PySem.W.Frag) : Addr := (He.cT K ("_law_right", none)).1
theorem code_right {fd : FuncData} (F : FnP K "_law_right" s_law_right (He.ga K "_law_right") fd) : fd.code = .ref (PC_ K) := by
  obtain ⟨oc, od, dV, kV, doc, pm, an, cdv, ct, osl, rfl, lk, hcd, _, _⟩ := F.ex
  obtain ⟨c, rfl⟩ := He.codeIn_ref hcd
  exact congrArg Value.ref (He.codeOf_eq (p := ("_law_right", none)) lk rfl).symm
theorem all_ok {f : Addr} (X : K.In h) (G : h.Ns mainGlobals mg) (c : SaysY fa fns R.prog.main.file h K) (hfa : mg ("law" : Str) = some (.ref f)) :
    ∃ fd : FuncData, (∀ (s : Shared) (v : Value), BindsTo s fd ⟨[v], []⟩ [("_law_script", v)]) ∧ ∀ base : Heap, K.In base → base.Ns mainGlobals mg → TabB base mg (PC_ K) (PT_ K) → FnOkG R.prog w K mg base CX0 13 f fd ["_law_script"] (spLaw K (CN_ K) (PT_ K)) := by
  have B := bf_all X G c
  obtain ⟨hm1, hm2⟩ := He.ba c.more
  obtain ⟨hn, hp⟩ := He.ba hm1
  obtain ⟨hk, hw⟩ := He.ba hp
  obtain ⟨hrf, hrl⟩ := He.ba hm2
  have NF := netB_ok hn
  obtain ⟨PK, fk⟩ := propB_ok hk
  obtain ⟨PW', fw⟩ := propB_ok hw
  obtain ⟨fdk, FK⟩ := funB_ok (st := s_Net_knots) (c.at2 (gA "knots", fnV "knots" "Net.knots" s_Net_knots) (by unfold as2; simp)) fk
  obtain ⟨fdw, FW⟩ := funB_ok (st := s_Net_wires) (c.at2 (gA "wires", fnV "wires" "Net.wires" s_Net_wires) (by unfold as2; simp)) fw
  have RF := refB_ok (P := R.prog) (c.at2 (iA, fnV "__init__" "Refused.__init__" s_Refused_init) (by unfold as2; simp)) hrl top_super hrf
  have RT := refT
  have g_super := B.b_super
  have MN := He.mkr_ok (c.d.fact 112 (f := .mkr "Net") rfl)
  have g_Net : mg ("Net" : Str) = some (.ref (He.ga K "Net")) := He.glo_ok X G (c.d.fact 41 (f := .glo "Net") rfl)
  have g_Parts : mg ("Parts" : Str) = some (.ref (He.ga K "Parts")) := He.glo_ok X G (c.d.fact 40 (f := .glo "Parts") rfl)
  have g_Refused : mg ("Refused" : Str) = some (.ref (He.ga K "Refused")) := He.glo_ok X G (c.d.fact 28 (f := .glo "Refused") rfl)
  have gis_whole : mg ("is_whole" : Str) = some (.ref (He.ga K "is_whole")) := He.glo_ok X G (c.d.fact 29 (f := .glo "is_whole") rfl)
  obtain ⟨fdis_whole, Fis_whole⟩ : ∃ fd, FnP K "is_whole" s_is_whole (He.ga K "is_whole") fd := c.d.def_ 0 (d := d_is_whole) rfl
  have gis_integer : mg ("is_integer" : Str) = some (.ref (He.ga K "is_integer")) := He.glo_ok X G (c.d.fact 30 (f := .glo "is_integer") rfl)
  obtain ⟨fdis_integer, Fis_integer⟩ : ∃ fd, FnP K "is_integer" s_is_integer (He.ga K "is_integer") fd := c.d.def_ 1 (d := d_is_integer) rfl
  have gis_within : mg ("is_within" : Str) = some (.ref (He.ga K "is_within")) := He.glo_ok X G (c.d.fact 31 (f := .glo "is_within") rfl)
  obtain ⟨fdis_within, Fis_within⟩ : ∃ fd, FnP K "is_within" s_is_within (He.ga K "is_within") fd := c.d.def_ 2 (d := d_is_within) rfl
  have gis_near : mg ("is_near" : Str) = some (.ref (He.ga K "is_near")) := He.glo_ok X G (c.d.fact 32 (f := .glo "is_near") rfl)
  obtain ⟨fdis_near, Fis_near⟩ : ∃ fd, FnP K "is_near" s_is_near (He.ga K "is_near") fd := c.d.def_ 3 (d := d_is_near) rfl
  have gother_kind : mg ("other_kind" : Str) = some (.ref (He.ga K "other_kind")) := He.glo_ok X G (c.d.fact 33 (f := .glo "other_kind") rfl)
  obtain ⟨fdother_kind, Fother_kind⟩ : ∃ fd, FnP K "other_kind" s_other_kind (He.ga K "other_kind") fd := c.d.def_ 4 (d := d_other_kind) rfl
  have gis_point : mg ("is_point" : Str) = some (.ref (He.ga K "is_point")) := He.glo_ok X G (c.d.fact 34 (f := .glo "is_point") rfl)
  obtain ⟨fdis_point, Fis_point⟩ : ∃ fd, FnP K "is_point" s_is_point (He.ga K "is_point") fd := c.d.def_ 5 (d := d_is_point) rfl
  have gare_corners : mg ("are_corners" : Str) = some (.ref (He.ga K "are_corners")) := He.glo_ok X G (c.d.fact 35 (f := .glo "are_corners") rfl)
  obtain ⟨fdare_corners, Fare_corners⟩ : ∃ fd, FnP K "are_corners" s_are_corners (He.ga K "are_corners") fd := c.d.def_ 6 (d := d_are_corners) rfl
  have gis_rise : mg ("is_rise" : Str) = some (.ref (He.ga K "is_rise")) := He.glo_ok X G (c.d.fact 36 (f := .glo "is_rise") rfl)
  obtain ⟨fdis_rise, Fis_rise⟩ : ∃ fd, FnP K "is_rise" s_is_rise (He.ga K "is_rise") fd := c.d.def_ 7 (d := d_is_rise) rfl
  have gis_small_rise : mg ("is_small_rise" : Str) = some (.ref (He.ga K "is_small_rise")) := He.glo_ok X G (c.d.fact 37 (f := .glo "is_small_rise") rfl)
  obtain ⟨fdis_small_rise, Fis_small_rise⟩ : ∃ fd, FnP K "is_small_rise" s_is_small_rise (He.ga K "is_small_rise") fd := c.d.def_ 8 (d := d_is_small_rise) rfl
  have gis_wire : mg ("is_wire" : Str) = some (.ref (He.ga K "is_wire")) := He.glo_ok X G (c.d.fact 38 (f := .glo "is_wire") rfl)
  obtain ⟨fdis_wire, Fis_wire⟩ : ∃ fd, FnP K "is_wire" s_is_wire (He.ga K "is_wire") fd := c.d.def_ 9 (d := d_is_wire) rfl
  have gare_parts : mg ("are_parts" : Str) = some (.ref (He.ga K "are_parts")) := He.glo_ok X G (c.d.fact 39 (f := .glo "are_parts") rfl)
  obtain ⟨fdare_parts, Fare_parts⟩ : ∃ fd, FnP K "are_parts" s_are_parts (He.ga K "are_parts") fd := c.d.def_ 10 (d := d_are_parts) rfl
  have gis_knot : mg ("is_knot" : Str) = some (.ref (He.ga K "is_knot")) := He.glo_ok X G (c.d.fact 42 (f := .glo "is_knot") rfl)
  obtain ⟨fdis_knot, Fis_knot⟩ : ∃ fd, FnP K "is_knot" s_is_knot (He.ga K "is_knot") fd := c.d.def_ 13 (d := d_is_knot) rfl
  have grequire_net : mg ("require_net" : Str) = some (.ref (He.ga K "require_net")) := He.glo_ok X G (c.d.fact 43 (f := .glo "require_net") rfl)
  obtain ⟨fdrequire_net, Frequire_net⟩ : ∃ fd, FnP K "require_net" s_require_net (He.ga K "require_net") fd := c.d.def_ 14 (d := d_require_net) rfl
  have grequire_knot : mg ("require_knot" : Str) = some (.ref (He.ga K "require_knot")) := He.glo_ok X G (c.d.fact 44 (f := .glo "require_knot") rfl)
  obtain ⟨fdrequire_knot, Frequire_knot⟩ : ∃ fd, FnP K "require_knot" s_require_knot (He.ga K "require_knot") fd := c.d.def_ 15 (d := d_require_knot) rfl
  obtain ⟨fdNet_init, FNet_init⟩ : ∃ fd, FunD K "__init__" "Net.__init__" (defArgs s_Net_init) (defBody s_Net_init) (defScope s_Net_init) [] [] (He.ma K (He.ga K "Net") "__init__") fd := c.d.def_ 12 (d := d_Net_init) rfl
  have glinks_of : mg ("links_of" : Str) = some (.ref (He.ga K "links_of")) := He.glo_ok X G (c.d.fact 45 (f := .glo "links_of") rfl)
  obtain ⟨fdlinks_of, Flinks_of⟩ : ∃ fd, FnP K "links_of" s_links_of (He.ga K "links_of") fd := c.d.def_ 16 (d := d_links_of) rfl
  have gshortened : mg ("shortened" : Str) = some (.ref (He.ga K "shortened")) := He.glo_ok X G (c.d.fact 46 (f := .glo "shortened") rfl)
  obtain ⟨fdshortened, Fshortened⟩ : ∃ fd, FnP K "shortened" s_shortened (He.ga K "shortened") fd := c.d.def_ 17 (d := d_shortened) rfl
  have gshortest : mg ("shortest" : Str) = some (.ref (He.ga K "shortest")) := He.glo_ok X G (c.d.fact 47 (f := .glo "shortest") rfl)
  obtain ⟨fdshortest, Fshortest⟩ : ∃ fd, FnP K "shortest" s_shortest (He.ga K "shortest") fd := c.d.def_ 18 (d := d_shortest) rfl
  have gsteps_back : mg ("steps_back" : Str) = some (.ref (He.ga K "steps_back")) := He.glo_ok X G (c.d.fact 48 (f := .glo "steps_back") rfl)
  obtain ⟨fdsteps_back, Fsteps_back⟩ : ∃ fd, FnP K "steps_back" s_steps_back (He.ga K "steps_back") fd := c.d.def_ 19 (d := d_steps_back) rfl
  have gheights_or_loop_in : mg ("heights_or_loop_in" : Str) = some (.ref (He.ga K "heights_or_loop_in")) := He.glo_ok X G (c.d.fact 49 (f := .glo "heights_or_loop_in") rfl)
  obtain ⟨fdheights_or_loop_in, Fheights_or_loop_in⟩ : ∃ fd, FnP K "heights_or_loop_in" s_heights_or_loop_in (He.ga K "heights_or_loop_in") fd := c.d.def_ 20 (d := d_heights_or_loop_in) rfl
  have gbegun_at : mg ("begun_at" : Str) = some (.ref (He.ga K "begun_at")) := He.glo_ok X G (c.d.fact 50 (f := .glo "begun_at") rfl)
  obtain ⟨fdbegun_at, Fbegun_at⟩ : ∃ fd, FnP K "begun_at" s_begun_at (He.ga K "begun_at") fd := c.d.def_ 21 (d := d_begun_at) rfl
  have gfarthest_in : mg ("farthest_in" : Str) = some (.ref (He.ga K "farthest_in")) := He.glo_ok X G (c.d.fact 51 (f := .glo "farthest_in") rfl)
  obtain ⟨fdfarthest_in, Ffarthest_in⟩ : ∃ fd, FnP K "farthest_in" s_farthest_in (He.ga K "farthest_in") fd := c.d.def_ 22 (d := d_farthest_in) rfl
  have gare_steps : mg ("are_steps" : Str) = some (.ref (He.ga K "are_steps")) := He.glo_ok X G (c.d.fact 52 (f := .glo "are_steps") rfl)
  obtain ⟨fdare_steps, Fare_steps⟩ : ∃ fd, FnP K "are_steps" s_are_steps (He.ga K "are_steps") fd := c.d.def_ 23 (d := d_are_steps) rfl
  have gknots_of_step : mg ("knots_of_step" : Str) = some (.ref (He.ga K "knots_of_step")) := He.glo_ok X G (c.d.fact 53 (f := .glo "knots_of_step") rfl)
  obtain ⟨fdknots_of_step, Fknots_of_step⟩ : ∃ fd, FnP K "knots_of_step" s_knots_of_step (He.ga K "knots_of_step") fd := c.d.def_ 24 (d := d_knots_of_step) rfl
  have gknots_of_way : mg ("knots_of_way" : Str) = some (.ref (He.ga K "knots_of_way")) := He.glo_ok X G (c.d.fact 54 (f := .glo "knots_of_way") rfl)
  obtain ⟨fdknots_of_way, Fknots_of_way⟩ : ∃ fd, FnP K "knots_of_way" s_knots_of_way (He.ga K "knots_of_way") fd := c.d.def_ 25 (d := d_knots_of_way) rfl
  have glength_of : mg ("length_of" : Str) = some (.ref (He.ga K "length_of")) := He.glo_ok X G (c.d.fact 55 (f := .glo "length_of") rfl)
  obtain ⟨fdlength_of, Flength_of⟩ : ∃ fd, FnP K "length_of" s_length_of (He.ga K "length_of") fd := c.d.def_ 26 (d := d_length_of) rfl
  have gis_way : mg ("is_way" : Str) = some (.ref (He.ga K "is_way")) := He.glo_ok X G (c.d.fact 56 (f := .glo "is_way") rfl)
  obtain ⟨fdis_way, Fis_way⟩ : ∃ fd, FnP K "is_way" s_is_way (He.ga K "is_way") fd := c.d.def_ 27 (d := d_is_way) rfl
  have gis_lot_of_knots : mg ("is_lot_of_knots" : Str) = some (.ref (He.ga K "is_lot_of_knots")) := He.glo_ok X G (c.d.fact 57 (f := .glo "is_lot_of_knots") rfl)
  obtain ⟨fdis_lot_of_knots, Fis_lot_of_knots⟩ : ∃ fd, FnP K "is_lot_of_knots" s_is_lot_of_knots (He.ga K "is_lot_of_knots") fd := c.d.def_ 28 (d := d_is_lot_of_knots) rfl
  have gcan_rise : mg ("can_rise" : Str) = some (.ref (He.ga K "can_rise")) := He.glo_ok X G (c.d.fact 58 (f := .glo "can_rise") rfl)
  obtain ⟨fdcan_rise, Fcan_rise⟩ : ∃ fd, FnP K "can_rise" s_can_rise (He.ga K "can_rise") fd := c.d.def_ 29 (d := d_can_rise) rfl
  have gis_farthest_in : mg ("is_farthest_in" : Str) = some (.ref (He.ga K "is_farthest_in")) := He.glo_ok X G (c.d.fact 59 (f := .glo "is_farthest_in") rfl)
  obtain ⟨fdis_farthest_in, Fis_farthest_in⟩ : ∃ fd, FnP K "is_farthest_in" s_is_farthest_in (He.ga K "is_farthest_in") fd := c.d.def_ 30 (d := d_is_farthest_in) rfl
  have gis_range : mg ("is_range" : Str) = some (.ref (He.ga K "is_range")) := He.glo_ok X G (c.d.fact 60 (f := .glo "is_range") rfl)
  obtain ⟨fdis_range, Fis_range⟩ : ∃ fd, FnP K "is_range" s_is_range (He.ga K "is_range") fd := c.d.def_ 31 (d := d_is_range) rfl
  have grequire_ranges : mg ("require_ranges" : Str) = some (.ref (He.ga K "require_ranges")) := He.glo_ok X G (c.d.fact 61 (f := .glo "require_ranges") rfl)
  obtain ⟨fdrequire_ranges, Frequire_ranges⟩ : ∃ fd, FnP K "require_ranges" s_require_ranges (He.ga K "require_ranges") fd := c.d.def_ 32 (d := d_require_ranges) rfl
  have glaw_urn : mg ("_law_urn" : Str) = some (.ref (He.ga K "_law_urn")) := He.glo_ok X G (c.d.fact 66 (f := .glo "_law_urn") rfl)
  obtain ⟨fdlaw_urn, Flaw_urn⟩ : ∃ fd, FnP K "_law_urn" s_law_urn (He.ga K "_law_urn") fd := c.d.def_ 37 (d := d_law_urn) rfl
  have glaw_ball : mg ("_law_ball" : Str) = some (.ref (He.ga K "_law_ball")) := He.glo_ok X G (c.d.fact 67 (f := .glo "_law_ball") rfl)
  obtain ⟨fdlaw_ball, Flaw_ball⟩ : ∃ fd, FnP K "_law_ball" s_law_ball (He.ga K "_law_ball") fd := c.d.def_ 38 (d := d_law_ball) rfl
  have glaw_taken : mg ("_law_taken" : Str) = some (.ref (He.ga K "_law_taken")) := He.glo_ok X G (c.d.fact 68 (f := .glo "_law_taken") rfl)
  obtain ⟨fdlaw_taken, Flaw_taken⟩ : ∃ fd, FnP K "_law_taken" s_law_taken (He.ga K "_law_taken") fd := c.d.def_ 39 (d := d_law_taken) rfl
  have glaw_rise : mg ("_law_rise" : Str) = some (.ref (He.ga K "_law_rise")) := He.glo_ok X G (c.d.fact 69 (f := .glo "_law_rise") rfl)
  obtain ⟨fdlaw_rise, Flaw_rise⟩ : ∃ fd, FnP K "_law_rise" s_law_rise (He.ga K "_law_rise") fd := c.d.def_ 40 (d := d_law_rise) rfl
  have glaw_wires : mg ("_law_wires" : Str) = some (.ref (He.ga K "_law_wires")) := He.glo_ok X G (c.d.fact 70 (f := .glo "_law_wires") rfl)
  obtain ⟨fdlaw_wires, Flaw_wires⟩ : ∃ fd, FnP K "_law_wires" s_law_wires (He.ga K "_law_wires") fd := c.d.def_ 41 (d := d_law_wires) rfl
  have glaw_range : mg ("_law_range" : Str) = some (.ref (He.ga K "_law_range")) := He.glo_ok X G (c.d.fact 71 (f := .glo "_law_range") rfl)
  obtain ⟨fdlaw_range, Flaw_range⟩ : ∃ fd, FnP K "_law_range" s_law_range (He.ga K "_law_range") fd := c.d.def_ 42 (d := d_law_range) rfl
  have glaw_fitting_range : mg ("_law_fitting_range" : Str) = some (.ref (He.ga K "_law_fitting_range")) := He.glo_ok X G (c.d.fact 72 (f := .glo "_law_fitting_range") rfl)
  obtain ⟨fdlaw_fitting_range, Flaw_fitting_range⟩ : ∃ fd, FnP K "_law_fitting_range" s_law_fitting_range (He.ga K "_law_fitting_range") fd := c.d.def_ 43 (d := d_law_fitting_range) rfl
  have glaw_drops : mg ("_law_drops" : Str) = some (.ref (He.ga K "_law_drops")) := He.glo_ok X G (c.d.fact 73 (f := .glo "_law_drops") rfl)
  obtain ⟨fdlaw_drops, Flaw_drops⟩ : ∃ fd, FnP K "_law_drops" s_law_drops (He.ga K "_law_drops") fd := c.d.def_ 44 (d := d_law_drops) rfl
  have glaw_spread : mg ("_law_spread" : Str) = some (.ref (He.ga K "_law_spread")) := He.glo_ok X G (c.d.fact 82 (f := .glo "_law_spread") rfl)
  obtain ⟨fdlaw_spread, Flaw_spread⟩ : ∃ fd, FnP K "_law_spread" s_law_spread (He.ga K "_law_spread") fd := c.d.def_ 53 (d := d_law_spread) rfl
  have glaw_drawn : mg ("_law_drawn" : Str) = some (.ref (He.ga K "_law_drawn")) := He.glo_ok X G (c.d.fact 84 (f := .glo "_law_drawn") rfl)
  obtain ⟨fdlaw_drawn, Flaw_drawn⟩ : ∃ fd, FnP K "_law_drawn" s_law_drawn (He.ga K "_law_drawn") fd := c.d.def_ 55 (d := d_law_drawn) rfl
  have glaw_links : mg ("_law_links" : Str) = some (.ref (He.ga K "_law_links")) := He.glo_ok X G (c.d.fact 74 (f := .glo "_law_links") rfl)
  obtain ⟨fdlaw_links, Flaw_links⟩ : ∃ fd, FnP K "_law_links" s_law_links (He.ga K "_law_links") fd := c.d.def_ 45 (d := d_law_links) rfl
  have glaw_lengths : mg ("_law_lengths" : Str) = some (.ref (He.ga K "_law_lengths")) := He.glo_ok X G (c.d.fact 75 (f := .glo "_law_lengths") rfl)
  obtain ⟨fdlaw_lengths, Flaw_lengths⟩ : ∃ fd, FnP K "_law_lengths" s_law_lengths (He.ga K "_law_lengths") fd := c.d.def_ 46 (d := d_law_lengths) rfl
  have glaw_is_step : mg ("_law_is_step" : Str) = some (.ref (He.ga K "_law_is_step")) := He.glo_ok X G (c.d.fact 76 (f := .glo "_law_is_step") rfl)
  obtain ⟨fdlaw_is_step, Flaw_is_step⟩ : ∃ fd, FnP K "_law_is_step" s_law_is_step (He.ga K "_law_is_step") fd := c.d.def_ 47 (d := d_law_is_step) rfl
  have glaw_way_end : mg ("_law_way_end" : Str) = some (.ref (He.ga K "_law_way_end")) := He.glo_ok X G (c.d.fact 77 (f := .glo "_law_way_end") rfl)
  obtain ⟨fdlaw_way_end, Flaw_way_end⟩ : ∃ fd, FnP K "_law_way_end" s_law_way_end (He.ga K "_law_way_end") fd := c.d.def_ 48 (d := d_law_way_end) rfl
  have glaw_length : mg ("_law_length" : Str) = some (.ref (He.ga K "_law_length")) := He.glo_ok X G (c.d.fact 78 (f := .glo "_law_length") rfl)
  obtain ⟨fdlaw_length, Flaw_length⟩ : ∃ fd, FnP K "_law_length" s_law_length (He.ga K "_law_length") fd := c.d.def_ 49 (d := d_law_length) rfl
  have glaw_can_rise : mg ("_law_can_rise" : Str) = some (.ref (He.ga K "_law_can_rise")) := He.glo_ok X G (c.d.fact 87 (f := .glo "_law_can_rise") rfl)
  obtain ⟨fdlaw_can_rise, Flaw_can_rise⟩ : ∃ fd, FnP K "_law_can_rise" s_law_can_rise (He.ga K "_law_can_rise") fd := c.d.def_ 58 (d := d_law_can_rise) rfl
  have glaw_is_lot : mg ("_law_is_lot" : Str) = some (.ref (He.ga K "_law_is_lot")) := He.glo_ok X G (c.d.fact 86 (f := .glo "_law_is_lot") rfl)
  obtain ⟨fdlaw_is_lot, Flaw_is_lot⟩ : ∃ fd, FnP K "_law_is_lot" s_law_is_lot (He.ga K "_law_is_lot") fd := c.d.def_ 57 (d := d_law_is_lot) rfl
  have glaw_is_far : mg ("_law_is_far" : Str) = some (.ref (He.ga K "_law_is_far")) := He.glo_ok X G (c.d.fact 88 (f := .glo "_law_is_far") rfl)
  obtain ⟨fdlaw_is_far, Flaw_is_far⟩ : ∃ fd, FnP K "_law_is_far" s_law_is_far (He.ga K "_law_is_far") fd := c.d.def_ 59 (d := d_law_is_far) rfl
  have glaw_bars : mg ("_law_bars" : Str) = some (.ref (He.ga K "_law_bars")) := He.glo_ok X G (c.d.fact 79 (f := .glo "_law_bars") rfl)
  obtain ⟨fdlaw_bars, Flaw_bars⟩ : ∃ fd, FnP K "_law_bars" s_law_bars (He.ga K "_law_bars") fd := c.d.def_ 50 (d := d_law_bars) rfl
  have glaw_bent : mg ("_law_bent" : Str) = some (.ref (He.ga K "_law_bent")) := He.glo_ok X G (c.d.fact 83 (f := .glo "_law_bent") rfl)
  obtain ⟨fdlaw_bent, Flaw_bent⟩ : ∃ fd, FnP K "_law_bent" s_law_bent (He.ga K "_law_bent") fd := c.d.def_ 54 (d := d_law_bent) rfl
  have grequire_fitting : mg ("require_fitting" : Str) = some (.ref (He.ga K "require_fitting")) := He.glo_ok X G (c.d.fact 62 (f := .glo "require_fitting") rfl)
  obtain ⟨fdrequire_fitting, Frequire_fitting⟩ : ∃ fd, FnP K "require_fitting" s_require_fitting (He.ga K "require_fitting") fd := c.d.def_ 33 (d := d_require_fitting) rfl
  have grequire_two_knots : mg ("require_two_knots" : Str) = some (.ref (He.ga K "require_two_knots")) := He.glo_ok X G (c.d.fact 63 (f := .glo "require_two_knots") rfl)
  obtain ⟨fdrequire_two_knots, Frequire_two_knots⟩ : ∃ fd, FnP K "require_two_knots" s_require_two_knots (He.ga K "require_two_knots") fd := c.d.def_ 34 (d := d_require_two_knots) rfl
  have gmost_apart : mg ("most_apart" : Str) = some (.ref (He.ga K "most_apart")) := He.glo_ok X G (c.d.fact 64 (f := .glo "most_apart") rfl)
  obtain ⟨fdmost_apart, Fmost_apart⟩ : ∃ fd, FnP K "most_apart" s_most_apart (He.ga K "most_apart") fd := c.d.def_ 35 (d := d_most_apart) rfl
  have gis_most_apart : mg ("is_most_apart" : Str) = some (.ref (He.ga K "is_most_apart")) := He.glo_ok X G (c.d.fact 65 (f := .glo "is_most_apart") rfl)
  obtain ⟨fdis_most_apart, Fis_most_apart⟩ : ∃ fd, FnP K "is_most_apart" s_is_most_apart (He.ga K "is_most_apart") fd := c.d.def_ 36 (d := d_is_most_apart) rfl
  have glaw_right : mg ("_law_right" : Str) = some (.ref (He.ga K "_law_right")) := He.glo_ok X G (c.d.fact 89 (f := .glo "_law_right") rfl)
  obtain ⟨fdlaw_right, Flaw_right⟩ : ∃ fd, FnP K "_law_right" s_law_right (He.ga K "_law_right") fd := c.d.def_ 60 (d := d_law_right) rfl
  have glaw : mg ("law" : Str) = some (.ref (He.ga K "law")) := He.glo_ok X G (c.d.fact 90 (f := .glo "law") rfl)
  obtain ⟨fdlaw, Flaw⟩ : ∃ fd, FnP K "law" s_law (He.ga K "law") fd := c.d.def_ 61 (d := d_law) rfl
  have glaw_met : mg ("_law_met" : Str) = some (.ref (He.ga K "_law_met")) := He.glo_ok X G (c.d.fact 85 (f := .glo "_law_met") rfl)
  obtain ⟨fdlaw_met, Flaw_met⟩ : ∃ fd, FnP K "_law_met" s_law_met (He.ga K "_law_met") fd := c.d.def_ 56 (d := d_law_met) rfl
  have e := hfa.symm.trans glaw
  cases e
  refine ⟨fdlaw, fun s v => (FunD.bindsA (ps := ["_law_script"]) Flaw fun _ _ _ _ _ _ us hl => match us, hl with | [_], _ => rfl) s [v] rfl, fun base KB GB TB => ?_⟩
  have C_knots : Prp R.prog w K mg base (CN_ K) 1 "knots" (spKnots (CN_ K)) := ok_knots NF PK FK
  have C_wires : Prp R.prog w K mg base (CN_ K) 1 "wires" (spWires (CN_ K)) := ok_wires NF PW' FW
  have BI : Binds K fdNet_init ["self", "knots", "wires"] [] := FNet_init.bindsN fun _ _ _ _ _ _ us hl => match us, hl with | [_, _, _], _ => rfl
  have C_is_whole := ok_is_whole (P := R.prog) (w := w) (base := base) (CN := CN_ K) B gis_whole Fis_whole
  have C_is_integer := ok_is_integer (P := R.prog) (w := w) (base := base) (CN := CN_ K) B C_is_whole gis_integer Fis_integer
  have C_is_within := ok_is_within (P := R.prog) (w := w) (base := base) (CN := CN_ K) B C_is_whole gis_within Fis_within
  have C_is_near := ok_is_near (P := R.prog) (w := w) (base := base) (CN := CN_ K) C_is_within gis_near Fis_near
  have C_other_kind := ok_other_kind (P := R.prog) (w := w) (base := base) (CN := CN_ K) B gother_kind Fother_kind
  have C_is_point := ok_is_point (P := R.prog) (w := w) (base := base) (CN := CN_ K) B C_is_near gis_point Fis_point
  have C_are_corners := ok_are_corners (P := R.prog) (w := w) (base := base) (CN := CN_ K) B C_is_point C_other_kind gare_corners Fare_corners
  have C_is_rise := ok_is_rise (P := R.prog) (w := w) (base := base) (CN := CN_ K) B C_is_near C_are_corners gis_rise Fis_rise
  have C_is_small_rise := ok_is_small_rise (P := R.prog) (w := w) (base := base) (CN := CN_ K) B C_is_near C_is_rise gis_small_rise Fis_small_rise
  have C_is_wire := ok_is_wire (P := R.prog) (w := w) (base := base) (CN := CN_ K) B C_is_within C_is_small_rise gis_wire Fis_wire
  have C_are_parts := ok_are_parts (P := R.prog) (w := w) (base := base) (CN := CN_ K) B C_is_within C_is_wire gare_parts Fare_parts
  have C_is_knot := ok_is_knot (P := R.prog) (w := w) (base := base) (CN := CN_ K) NF C_is_within gis_knot Fis_knot
  have C_require_net := ok_require_net (P := R.prog) (w := w) (base := base) (CN := CN_ K) B NF g_Net grequire_net Frequire_net
  have C_require_knot := ok_require_knot (P := R.prog) (w := w) (base := base) (CN := CN_ K) C_is_knot grequire_knot Frequire_knot
  have FI := ok_Net_init (P := R.prog) (w := w) (base := base) (CN := CN_ K) B NF C_are_parts g_Parts FNet_init
  have C_links_of := ok_links_of (P := R.prog) (w := w) (base := base) (CN := CN_ K) B NF C_wires glinks_of Flinks_of
  have C_shortened := ok_shortened (P := R.prog) (w := w) (base := base) (CN := CN_ K) gshortened Fshortened
  have C_shortest := ok_shortest (P := R.prog) (w := w) (base := base) (CN := CN_ K) B C_shortened gshortest Fshortest
  have C_steps_back := ok_steps_back (P := R.prog) (w := w) (base := base) (CN := CN_ K) B gsteps_back Fsteps_back
  have C_heights_or_loop_in := ok_heights_or_loop_in (P := R.prog) (w := w) (base := base) (CN := CN_ K) B NF C_knots C_links_of C_shortest C_steps_back gheights_or_loop_in Fheights_or_loop_in
  have C_begun_at := ok_begun_at (P := R.prog) (w := w) (base := base) (CN := CN_ K) B NF C_knots gbegun_at Fbegun_at
  have C_farthest_in := ok_farthest_in (P := R.prog) (w := w) (base := base) (CN := CN_ K) B NF C_knots C_links_of C_begun_at C_shortest C_steps_back gfarthest_in Ffarthest_in
  have C_are_steps := ok_are_steps (P := R.prog) (w := w) (base := base) (CN := CN_ K) B NF C_is_whole C_wires gare_steps Fare_steps
  have C_knots_of_step := ok_knots_of_step (P := R.prog) (w := w) (base := base) (CN := CN_ K) B NF C_wires gknots_of_step Fknots_of_step
  have C_knots_of_way := ok_knots_of_way (P := R.prog) (w := w) (base := base) (CN := CN_ K) B C_knots_of_step gknots_of_way Fknots_of_way
  have C_length_of := ok_length_of (P := R.prog) (w := w) (base := base) (CN := CN_ K) B glength_of Flength_of
  have C_is_way := ok_is_way (P := R.prog) (w := w) (base := base) (CN := CN_ K) B C_are_steps C_knots_of_way gis_way Fis_way
  have C_is_lot_of_knots := ok_is_lot_of_knots (P := R.prog) (w := w) (base := base) (CN := CN_ K) B NF C_is_whole C_knots gis_lot_of_knots Fis_lot_of_knots
  have C_can_rise := ok_can_rise (P := R.prog) (w := w) (base := base) (CN := CN_ K) B NF C_wires gcan_rise Fcan_rise
  have C_is_farthest_in := ok_is_farthest_in (P := R.prog) (w := w) (base := base) (CN := CN_ K) B C_is_whole C_farthest_in C_is_way C_length_of C_is_lot_of_knots C_can_rise gis_farthest_in Fis_farthest_in
  have C_is_range := ok_is_range (P := R.prog) (w := w) (base := base) (CN := CN_ K) B C_is_integer gis_range Fis_range
  have C_require_ranges := ok_require_ranges (P := R.prog) (w := w) (base := base) (CN := CN_ K) B NF C_wires C_require_net C_is_range grequire_ranges Frequire_ranges
  have C_law_urn := ok_law_urn (P := R.prog) (w := w) (base := base) B glaw_urn Flaw_urn
  have C_law_ball := ok_law_ball (P := R.prog) (w := w) (base := base) (CN := CN_ K) B glaw_ball Flaw_ball
  have C_law_taken := ok_law_taken (P := R.prog) (w := w) (base := base) (CN := CN_ K) B C_law_ball glaw_taken Flaw_taken
  have C_law_rise := ok_law_rise (P := R.prog) (w := w) (base := base) (CN := CN_ K) B C_law_taken glaw_rise Flaw_rise
  have C_law_wires := ok_law_wires (P := R.prog) (w := w) (base := base) (CN := CN_ K) B C_law_ball C_law_rise glaw_wires Flaw_wires
  have C_law_range := ok_law_range (P := R.prog) (w := w) (base := base) (CN := CN_ K) B C_law_ball C_law_taken glaw_range Flaw_range
  have C_law_fitting_range := ok_law_fitting_range (P := R.prog) (w := w) (base := base) (CN := CN_ K) B C_law_ball C_law_taken glaw_fitting_range Flaw_fitting_range
  have C_law_drops := ok_law_drops (P := R.prog) (w := w) (base := base) (CN := CN_ K) B glaw_drops Flaw_drops
  have C_law_spread := ok_law_spread (P := R.prog) (w := w) (base := base) (CN := CN_ K) B C_law_ball C_law_drops C_law_range C_law_fitting_range glaw_spread Flaw_spread
  have C_law_drawn := ok_law_drawn (P := R.prog) (w := w) (base := base) (CN := CN_ K) B C_law_ball C_law_taken C_law_wires C_law_spread glaw_drawn Flaw_drawn
  have C_law_links := ok_law_links (P := R.prog) (w := w) (base := base) (CN := CN_ K) B glaw_links Flaw_links
  have C_law_lengths := ok_law_lengths (P := R.prog) (w := w) (base := base) (CN := CN_ K) B glaw_lengths Flaw_lengths
  have C_law_is_step := ok_law_is_step (P := R.prog) (w := w) (base := base) (CN := CN_ K) B glaw_is_step Flaw_is_step
  have C_law_way_end := ok_law_way_end (P := R.prog) (w := w) (base := base) (CN := CN_ K) B C_law_is_step glaw_way_end Flaw_way_end
  have C_law_length := ok_law_length (P := R.prog) (w := w) (base := base) (CN := CN_ K) B glaw_length Flaw_length
  have C_law_can_rise := ok_law_can_rise (P := R.prog) (w := w) (base := base) (CN := CN_ K) B glaw_can_rise Flaw_can_rise
  have C_law_is_lot := ok_law_is_lot (P := R.prog) (w := w) (base := base) (CN := CN_ K) B glaw_is_lot Flaw_is_lot
  have C_law_is_far := ok_law_is_far (P := R.prog) (w := w) (base := base) (CN := CN_ K) B C_law_is_lot C_law_can_rise C_law_way_end C_law_length glaw_is_far Flaw_is_far
  have C_law_bars := ok_law_bars (P := R.prog) (w := w) (base := base) (CN := CN_ K) B C_law_is_step C_law_way_end C_law_length glaw_bars Flaw_bars
  have C_law_bent := ok_law_bent (P := R.prog) (w := w) (base := base) (CN := CN_ K) (n := 6) (by decide) B C_law_ball C_law_taken glaw_bent Flaw_bent
  have C_require_fitting := ok_require_fitting (P := R.prog) (w := w) (base := base) (CN := CN_ K) B RF RT g_Refused g_super C_heights_or_loop_in grequire_fitting Frequire_fitting
  have C_require_two_knots := ok_require_two_knots (P := R.prog) (w := w) (base := base) (CN := CN_ K) B C_require_ranges C_require_knot C_require_fitting grequire_two_knots Frequire_two_knots
  have C_most_apart := ok_most_apart (P := R.prog) (w := w) (base := base) (CN := CN_ K) B C_require_two_knots C_farthest_in gmost_apart Fmost_apart
  have C_is_most_apart := ok_is_most_apart (P := R.prog) (w := w) (base := base) (CN := CN_ K) B C_require_two_knots C_is_farthest_in gis_most_apart Fis_most_apart
  have C_law_right := ok_law_right (P := R.prog) (w := w) (base := base) (CN := CN_ K) B RF g_Refused g_Net MN FI BI glaw_met Flaw_met TB C_law_ball C_law_drawn C_law_links C_law_lengths C_law_bars C_law_bent C_law_is_far C_most_apart C_is_most_apart glaw_right Flaw_right (code_right Flaw_right)
  exact ok_law (P := R.prog) (w := w) (base := base) B g_Net MN FI BI C_law_urn C_law_right C_most_apart C_is_most_apart Flaw
end
end RN
end

set_option Elab.async false
set_option linter.all false
set_option maxRecDepth 100000
set_option maxHeartbeats 0
open PySem PySem.W PySem.Calls PyProof.Rows
theorem PySem.Challenge.cw_risenets_k32_whole_how_far_apart_holds : PySem.Challenge.rw_risenets_k32_whole_how_far_apart.Holds := by
  refine RN.holds_of (RN.walk_ofP (l := PySem.Challenge.rw_risenets_k32_whole_how_far_apart) (n := 63) (k := 13) (x := "_law_script") (CX := fun _ => L2.CX0) rfl (by decide) RN.law_plain ⟨rfl, by decide, by decide⟩ ?_ fun _ _ _ _ _ z => z)
  intro w mg fa h Y G hmg0
  obtain ⟨K, KX, c⟩ := Y
  have hmg : mg ("law" : PySem.Str) = some (.ref fa) := by
    rw [← RN.law_name]
    exact hmg0
  obtain ⟨fd, hb, hF⟩ := RN.all_ok (w := w) KX G c hmg
  refine ⟨K, fd, RN.PC_ K, RN.PT_ K, RN.spLaw K (RN.CN_ K) (RN.PT_ K), KX, c.empty, c.out, PySem.W.codeHd_of_K KX c.hd, hb, fun H a ns hP hS => ⟨a, ns, rfl, hS, ⟨#[], hP, True.intro, fun pos cv z => ?_⟩, fun _ => rfl⟩, hF⟩
  exact absurd (show codeAmong pos [] = some cv from z) (by simp [codeAmong])
