import PyProof.Rows.All
import Wide.All
import OpenK.AllK
import Wide.FinOn
import HandS.ForMost
import HandS.Defaults
import PySem.Challenge.RW_landweave_k95_whole_water_and_sight
import KE.KStateDown
import HandS.Head0
import HandS.Head1
import HandS.Head2
import HandS.HeadEnd
import HandS.HeadHook4
import KE.KUnpackStar
import HandS.MakeKwOnly
import HandS.More
import HandS.Wide
import HandS.IsInst
import HandS.NoneIn
import HandS.Style
import HandS.TupAny
import KE.KDictDisplayH
import HandS.WideBits
import HandS.Deep
import HandS.Finally
import PyProof.DictCompW
import HandS.DictComp
import HandS.SetBool
import HandS.Strs
import KE.KDictSum
import HandS.SortInts
import HandS.SortRule
import HandS.Conv
import KE.KDictWalk
import KE.GoesNew
import KE.GoesEnumKw
import KE.GoesZip
import KE.GoesMore
import HandS.Evl
import HandS.MakeKw
set_option Elab.async false
set_option linter.all false
set_option maxRecDepth 100000
set_option maxHeartbeats 2000000
/-! The defs of the program: statements, slots, scopes; what the top has written. -/
namespace Kw
open PySem PySem.Spec PyProof.Rows L2
abbrev prg : Program := PySem.Challenge.pw_landweave_k95_whole_water_and_sight
def top (i : Nat) : Stmt := prg.main.body.getD i (.Pass ⟨0, 0, 0, 0⟩)
abbrev s_knot : Stmt := top 17
abbrev nm_knot : List Str := ["seed", "salt", "i", "j", "one", "two", "three"]
theorem sc_knot : FnScope nm_knot ["seed", "salt", "i", "j"] (defScope s_knot) := ⟨rfl, rfl, rfl, by decide +kernel, rfl, by decide +kernel, by decide +kernel⟩
abbrev s_is_whole : Stmt := top 31
abbrev nm_is_whole : List Str := ["thing", "low", "high"]
theorem sc_is_whole : FnScope nm_is_whole ["thing", "low", "high"] (defScope s_is_whole) := ⟨rfl, rfl, rfl, by decide +kernel, rfl, by decide +kernel, by decide +kernel⟩
abbrev s_must_box : Stmt := top 33
abbrev nm_must_box : List Str := ["box", "most", "low", "near", "high", "far"]
theorem sc_must_box : FnScope nm_must_box ["box", "most"] (defScope s_must_box) := ⟨rfl, rfl, rfl, by decide +kernel, rfl, by decide +kernel, by decide +kernel⟩
abbrev s_must_point : Stmt := top 34
abbrev nm_must_point : List Str := ["x", "z"]
theorem sc_must_point : FnScope nm_must_point ["x", "z"] (defScope s_must_point) := ⟨rfl, rfl, rfl, by decide +kernel, rfl, by decide +kernel, by decide +kernel⟩
abbrev s_points_of : Stmt := top 35
abbrev nm_points_of : List Str := ["box", "low", "near", "high", "far", "x", "z"]
theorem sc_points_of : FnScope nm_points_of ["box"] (defScope s_points_of) := ⟨rfl, rfl, rfl, by decide +kernel, rfl, by decide +kernel, by decide +kernel⟩
abbrev s_must_kind : Stmt := top 36
abbrev nm_must_kind : List Str := ["field", "path", "form"]
theorem sc_must_kind : FnScope nm_must_kind ["field", "path"] (defScope s_must_kind) := ⟨rfl, rfl, rfl, by decide +kernel, rfl, by decide +kernel, by decide +kernel⟩
abbrev s_must_things : Stmt := top 37
abbrev nm_must_things : List Str := ["field", "path", "names", "place", "sort", "thing", "within", "low", "high"]
theorem sc_must_things : FnScope nm_must_things ["field", "path", "names"] (defScope s_must_things) := ⟨rfl, rfl, rfl, by decide +kernel, rfl, by decide +kernel, by decide +kernel⟩
abbrev s_must_field : Stmt := top 38
abbrev nm_must_field : List Str := ["field", "path", "names"]
theorem sc_must_field : FnScope nm_must_field ["field", "path", "names"] (defScope s_must_field) := ⟨rfl, rfl, rfl, by decide +kernel, rfl, by decide +kernel, by decide +kernel⟩
abbrev s_parts_of : Stmt := top 39
abbrev nm_parts_of : List Str := ["field", "thing", "sort"]
theorem sc_parts_of : FnScope nm_parts_of ["field"] (defScope s_parts_of) := ⟨rfl, rfl, rfl, by decide +kernel, rfl, by decide +kernel, by decide +kernel⟩
abbrev s_size_of : Stmt := top 40
abbrev nm_size_of : List Str := ["field", "sizes", "within", "part"]
theorem sc_size_of : FnScope nm_size_of ["field", "sizes"] (defScope s_size_of) := ⟨rfl, rfl, rfl, by decide +kernel, rfl, by decide +kernel, by decide +kernel⟩
abbrev s_put : Stmt := top 41
abbrev nm_put : List Str := ["found", "known", "step"]
theorem sc_put : FnScope nm_put ["found", "known", "step"] (defScope s_put) := ⟨rfl, rfl, rfl, by decide +kernel, rfl, by decide +kernel, by decide +kernel⟩
abbrev s_steps_into : Stmt := top 42
abbrev nm_steps_into : List Str := ["found", "known", "field", "shift", "names", "word", "dx", "dz", "thing", "within", "numbers", "part"]
theorem sc_steps_into : FnScope nm_steps_into ["found", "known", "field", "shift", "names"] (defScope s_steps_into) := ⟨rfl, rfl, rfl, by decide +kernel, rfl, by decide +kernel, by decide +kernel⟩
abbrev s_steps_in : Stmt := top 43
abbrev nm_steps_in : List Str := ["rules", "found"]
theorem sc_steps_in : FnScope nm_steps_in ["rules"] (defScope s_steps_in) := ⟨rfl, rfl, rfl, by decide +kernel, rfl, by decide +kernel, by decide +kernel⟩
abbrev s_must_rules : Stmt := top 44
abbrev nm_must_rules : List Str := ["rules", "low", "high"]
theorem sc_must_rules : FnScope nm_must_rules ["rules"] (defScope s_must_rules) := ⟨rfl, rfl, rfl, by decide +kernel, rfl, by decide +kernel, by decide +kernel⟩
abbrev s_noise_at : Stmt := top 45
abbrev nm_noise_at : List Str := ["seed", "salt", "log", "x", "z", "side", "i", "p", "j", "q", "near", "far"]
theorem sc_noise_at : FnScope nm_noise_at ["seed", "salt", "log", "x", "z"] (defScope s_noise_at) := ⟨rfl, rfl, rfl, by decide +kernel, rfl, by decide +kernel, by decide +kernel⟩
abbrev s_reckoned : Stmt := top 46
abbrev nm_reckoned : List Str := ["step", "values", "word", "one", "rest", "other", "then", "otherwise"]
theorem sc_reckoned : FnScope nm_reckoned ["step", "values"] (defScope s_reckoned) := ⟨rfl, rfl, rfl, by decide +kernel, rfl, by decide +kernel, by decide +kernel⟩
abbrev s_run_steps : Stmt := top 47
abbrev nm_run_steps : List Str := ["some", "seed", "x", "z", "values", "step", "word"]
theorem sc_run_steps : FnScope nm_run_steps ["some", "seed", "x", "z"] (defScope s_run_steps) := ⟨rfl, rfl, rfl, by decide +kernel, rfl, by decide +kernel, by decide +kernel⟩
abbrev s_noise_range : Stmt := top 49
abbrev nm_noise_range : List Str := ["seed", "step", "box", "word", "salt", "log", "dx", "dz", "low", "near", "high", "far", "side", "wide", "deep", "corners", "first", "last", "begin", "end", "x", "z"]
theorem sc_noise_range : FnScope nm_noise_range ["seed", "step", "box"] (defScope s_noise_range) := ⟨rfl, rfl, rfl, by decide +kernel, rfl, by decide +kernel, by decide +kernel⟩
abbrev s_range_of : Stmt := top 50
abbrev nm_range_of : List Str := ["step", "ranges", "word", "one", "rest", "low", "high", "least", "most", "then", "otherwise", "products", "other"]
theorem sc_range_of : FnScope nm_range_of ["step", "ranges"] (defScope s_range_of) := ⟨rfl, rfl, rfl, by decide +kernel, rfl, by decide +kernel, by decide +kernel⟩
abbrev s_ranges_of : Stmt := top 51
abbrev nm_ranges_of : List Str := ["some", "seed", "box", "low", "near", "high", "far", "ranges", "step", "word"]
theorem sc_ranges_of : FnScope nm_ranges_of ["some", "seed", "box"] (defScope s_ranges_of) := ⟨rfl, rfl, rfl, by decide +kernel, rfl, by decide +kernel, by decide +kernel⟩
abbrev s_holds : Stmt := top 53
abbrev nm_holds : List Str := ["box", "point", "low", "near", "high", "far"]
theorem sc_holds : FnScope nm_holds ["box", "point"] (defScope s_holds) := ⟨rfl, rfl, rfl, by decide +kernel, rfl, by decide +kernel, by decide +kernel⟩
abbrev s_must_within : Stmt := top 56
abbrev nm_must_within : List Str := ["box", "points", "point"]
theorem sc_must_within : FnScope nm_must_within ["box", "points"] (defScope s_must_within) := ⟨rfl, rfl, rfl, by decide +kernel, rfl, by decide +kernel, by decide +kernel⟩
abbrev s_heights_in : Stmt := top 57
abbrev nm_heights_in : List Str := ["land", "box", "x", "z"]
theorem sc_heights_in : FnScope nm_heights_in ["land", "box"] (defScope s_heights_in) := ⟨rfl, rfl, rfl, by decide +kernel, rfl, by decide +kernel, by decide +kernel⟩
abbrev s_neighbours : Stmt := top 58
abbrev nm_neighbours : List Str := ["heights", "point", "x", "z", "dx", "dz"]
theorem sc_neighbours : FnScope nm_neighbours ["heights", "point"] (defScope s_neighbours) := ⟨rfl, rfl, rfl, by decide +kernel, rfl, by decide +kernel, by decide +kernel⟩
abbrev s_led : Stmt := top 59
abbrev nm_led : List Str := ["back", "goal", "found", "here"]
theorem sc_led : FnScope nm_led ["back", "goal"] (defScope s_led) := ⟨rfl, rfl, rfl, by decide +kernel, rfl, by decide +kernel, by decide +kernel⟩
abbrev s_must_spring : Stmt := top 62
abbrev nm_must_spring : List Str := ["box", "spring"]
theorem sc_must_spring : FnScope nm_must_spring ["box", "spring"] (defScope s_must_spring) := ⟨rfl, rfl, rfl, by decide +kernel, rfl, by decide +kernel, by decide +kernel⟩
abbrev s_at_edge : Stmt := top 63
abbrev nm_at_edge : List Str := ["box", "point", "low", "near", "high", "far"]
theorem sc_at_edge : FnScope nm_at_edge ["box", "point"] (defScope s_at_edge) := ⟨rfl, rfl, rfl, by decide +kernel, rfl, by decide +kernel, by decide +kernel⟩
abbrev s_wet_from : Stmt := top 64
abbrev nm_wet_from : List Str := ["heights", "spring", "level", "back", "found", "at", "point"]
theorem sc_wet_from : FnScope nm_wet_from ["heights", "spring", "level"] (defScope s_wet_from) := ⟨rfl, rfl, rfl, by decide +kernel, rfl, by decide +kernel, by decide +kernel⟩
abbrev s_first_out : Stmt := top 65
abbrev nm_first_out : List Str := ["box", "back", "found", "point"]
theorem sc_first_out : FnScope nm_first_out ["box", "back"] (defScope s_first_out) := ⟨rfl, rfl, rfl, by decide +kernel, rfl, by decide +kernel, by decide +kernel⟩
abbrev s_poured : Stmt := top 66
abbrev nm_poured : List Str := ["land", "box", "spring", "level", "heights", "back", "out"]
theorem sc_poured : FnScope nm_poured ["land", "box", "spring", "level"] (defScope s_poured) := ⟨rfl, rfl, rfl, by decide +kernel, rfl, by decide +kernel, by decide +kernel⟩
abbrev s_least_level : Stmt := top 67
abbrev nm_least_level : List Str := ["land", "box", "spring", "heights", "levels", "first", "last", "middle", "height"]
theorem sc_least_level : FnScope nm_least_level ["land", "box", "spring"] (defScope s_least_level) := ⟨rfl, rfl, rfl, by decide +kernel, rfl, by decide +kernel, by decide +kernel⟩
abbrev s_must_edit : Stmt := top 75
abbrev nm_must_edit : List Str := ["edit", "sort", "box", "rest", "most", "thing"]
theorem sc_must_edit : FnScope nm_must_edit ["edit"] (defScope s_must_edit) := ⟨rfl, rfl, rfl, by decide +kernel, rfl, by decide +kernel, by decide +kernel⟩
abbrev s_has_point : Stmt := top 76
abbrev nm_has_point : List Str := ["box", "x", "z"]
theorem sc_has_point : FnScope nm_has_point ["box", "x", "z"] (defScope s_has_point) := ⟨rfl, rfl, rfl, by decide +kernel, rfl, by decide +kernel, by decide +kernel⟩
abbrev s_range_after : Stmt := top 77
abbrev nm_range_after : List Str := ["edit", "low", "high", "sort", "box", "number"]
theorem sc_range_after : FnScope nm_range_after ["edit", "low", "high"] (defScope s_range_after) := ⟨rfl, rfl, rfl, by decide +kernel, rfl, by decide +kernel, by decide +kernel⟩
abbrev s_overlays : Stmt := top 78
abbrev nm_overlays : List Str := ["edit"]
theorem sc_overlays : FnScope nm_overlays ["edit"] (defScope s_overlays) := ⟨rfl, rfl, rfl, by decide +kernel, rfl, by decide +kernel, by decide +kernel⟩
abbrev s_Land___init__ : Stmt := inClass (top 79) 0
abbrev nm_Land___init__ : List Str := ["self", "rules", "seed", "memory"]
theorem sc_Land___init__ : FnScope nm_Land___init__ ["self", "rules", "seed", "memory"] (defScope s_Land___init__) := ⟨rfl, rfl, rfl, by decide +kernel, rfl, by decide +kernel, by decide +kernel⟩
abbrev s_Land_height_by : Stmt := inClass (top 79) 6
abbrev nm_Land_height_by : List Str := ["self", "x", "z", "count", "at", "found", "edit", "number"]
theorem sc_Land_height_by : FnScope nm_Land_height_by ["self", "x", "z", "count"] (defScope s_Land_height_by) := ⟨rfl, rfl, rfl, by decide +kernel, rfl, by decide +kernel, by decide +kernel⟩
abbrev s_Land_height_at : Stmt := inClass (top 79) 7
abbrev nm_Land_height_at : List Str := ["self", "x", "z"]
theorem sc_Land_height_at : FnScope nm_Land_height_at ["self", "x", "z"] (defScope s_Land_height_at) := ⟨rfl, rfl, rfl, by decide +kernel, rfl, by decide +kernel, by decide +kernel⟩
abbrev s_Land_height : Stmt := inClass (top 79) 8
abbrev nm_Land_height : List Str := ["self", "x", "z"]
theorem sc_Land_height : FnScope nm_Land_height ["self", "x", "z"] (defScope s_Land_height) := ⟨rfl, rfl, rfl, by decide +kernel, rfl, by decide +kernel, by decide +kernel⟩
abbrev s_Land_change : Stmt := inClass (top 79) 15
abbrev nm_Land_change : List Str := ["self", "laid"]
theorem sc_Land_change : FnScope nm_Land_change ["self", "laid"] (defScope s_Land_change) := ⟨rfl, rfl, rfl, by decide +kernel, rfl, by decide +kernel, by decide +kernel⟩
abbrev s_Land_noted : Stmt := inClass (top 79) 16
abbrev nm_Land_noted : List Str := ["self", "ahead"]
theorem sc_Land_noted : FnScope nm_Land_noted ["self", "ahead"] (defScope s_Land_noted) := ⟨rfl, rfl, rfl, by decide +kernel, rfl, by decide +kernel, by decide +kernel⟩
abbrev s_Land_put : Stmt := inClass (top 79) 18
abbrev nm_Land_put : List Str := ["self", "edit"]
theorem sc_Land_put : FnScope nm_Land_put ["self", "edit"] (defScope s_Land_put) := ⟨rfl, rfl, rfl, by decide +kernel, rfl, by decide +kernel, by decide +kernel⟩
abbrev s_Land_edit : Stmt := inClass (top 79) 21
abbrev nm_Land_edit : List Str := ["self", "edit", "ahead", "number"]
theorem sc_Land_edit : FnScope nm_Land_edit ["self", "edit"] (defScope s_Land_edit) := ⟨rfl, rfl, rfl, by decide +kernel, rfl, by decide +kernel, by decide +kernel⟩
abbrev s_Land_back : Stmt := inClass (top 79) 27
abbrev nm_Land_back : List Str := ["self"]
theorem sc_Land_back : FnScope nm_Land_back ["self"] (defScope s_Land_back) := ⟨rfl, rfl, rfl, by decide +kernel, rfl, by decide +kernel, by decide +kernel⟩
abbrev s_nearest : Stmt := top 84
abbrev nm_nearest : List Str := ["top", "bottom"]
theorem sc_nearest : FnScope nm_nearest ["top", "bottom"] (defScope s_nearest) := ⟨rfl, rfl, rfl, by decide +kernel, rfl, by decide +kernel, by decide +kernel⟩
abbrev s_lowest : Stmt := top 85
abbrev nm_lowest : List Str := ["top", "bottom", "one", "other"]
theorem sc_lowest : FnScope nm_lowest ["top", "bottom"] (defScope s_lowest) := ⟨rfl, rfl, rfl, by decide +kernel, rfl, by decide +kernel, by decide +kernel⟩
abbrev s_sees : Stmt := top 86
abbrev nm_sees : List Str := ["land", "one", "other", "eye", "wide", "deep", "far", "first", "rise", "room", "turn", "x", "z", "left"]
theorem sc_sees : FnScope nm_sees ["land", "one", "other", "eye"] (defScope s_sees) := ⟨rfl, rfl, rfl, by decide +kernel, rfl, by decide +kernel, by decide +kernel⟩
abbrev s__law_at : Stmt := top 88
abbrev nm__law_at : List Str := ["_law_script", "_law_k"]
theorem sc__law_at : FnScope nm__law_at ["_law_script", "_law_k"] (defScope s__law_at) := ⟨rfl, rfl, rfl, by decide +kernel, rfl, by decide +kernel, by decide +kernel⟩
abbrev s__law_mixed : Stmt := top 89
abbrev nm__law_mixed : List Str := ["_law_cell", "_law_k", "_law_number"]
theorem sc__law_mixed : FnScope nm__law_mixed ["_law_cell", "_law_k"] (defScope s__law_mixed) := ⟨rfl, rfl, rfl, by decide +kernel, rfl, by decide +kernel, by decide +kernel⟩
abbrev s__law_purse : Stmt := top 90
abbrev nm__law_purse : List Str := ["_law_script", "_law_at_here", "_law_cell"]
theorem sc__law_purse : FnScope nm__law_purse ["_law_script", "_law_at_here"] (defScope s__law_purse) := ⟨rfl, rfl, rfl, by decide +kernel, rfl, by decide +kernel, by decide +kernel⟩
abbrev s__law_draw : Stmt := top 91
abbrev nm__law_draw : List Str := ["_law_purse_here", "_law_out_of", "_law_drawn", "_law_number", "_law_k"]
theorem sc__law_draw : FnScope nm__law_draw ["_law_purse_here", "_law_out_of"] (defScope s__law_draw) := ⟨rfl, rfl, rfl, by decide +kernel, rfl, by decide +kernel, by decide +kernel⟩
abbrev s__law_rules : Stmt := top 92
abbrev nm__law_rules : List Str := ["_law_purse_here", "_law_deep", "_law_way", "_law_some", "_law_first", "_law_second"]
theorem sc__law_rules : FnScope nm__law_rules ["_law_purse_here", "_law_deep"] (defScope s__law_rules) := ⟨rfl, rfl, rfl, by decide +kernel, rfl, by decide +kernel, by decide +kernel⟩
abbrev s__law_edits : Stmt := top 93
abbrev nm__law_edits : List Str := ["_law_purse_here", "_law_box_here", "_law_many", "_law_found", "_law_k", "_law_x", "_law_z", "_law_part", "_law_word"]
theorem sc__law_edits : FnScope nm__law_edits ["_law_purse_here", "_law_box_here", "_law_many"] (defScope s__law_edits) := ⟨rfl, rfl, rfl, by decide +kernel, rfl, by decide +kernel, by decide +kernel⟩
abbrev s__law_box : Stmt := top 94
abbrev nm__law_box : List Str := ["_law_purse_here", "_law_wide", "_law_x", "_law_z"]
theorem sc__law_box : FnScope nm__law_box ["_law_purse_here", "_law_wide"] (defScope s__law_box) := ⟨rfl, rfl, rfl, by decide +kernel, rfl, by decide +kernel, by decide +kernel⟩
abbrev s__law_spot : Stmt := top 95
abbrev nm__law_spot : List Str := ["_law_purse_here", "_law_box_here"]
theorem sc__law_spot : FnScope nm__law_spot ["_law_purse_here", "_law_box_here"] (defScope s__law_spot) := ⟨rfl, rfl, rfl, by decide +kernel, rfl, by decide +kernel, by decide +kernel⟩
abbrev s__law_levels_right : Stmt := top 96
abbrev nm__law_levels_right : List Str := ["_law_ground", "_law_box_here", "_law_spring", "_law_least", "_law_base", "_law_held", "_law_step", "_law_level", "_law_told", "_law_spot_here"]
theorem sc__law_levels_right : FnScope nm__law_levels_right ["_law_ground", "_law_box_here", "_law_spring"] (defScope s__law_levels_right) := ⟨rfl, rfl, rfl, by decide +kernel, rfl, by decide +kernel, by decide +kernel⟩
abbrev s__law_shuts_right : Stmt := top 97
abbrev nm__law_shuts_right : List Str := ["_law_ground", "_law_box_here", "_law_spring", "_law_least", "_law_base", "_law_low", "_law_near", "_law_high", "_law_far", "_law_inner", "_law_shut", "_law_lifted"]
theorem sc__law_shuts_right : FnScope nm__law_shuts_right ["_law_ground", "_law_box_here", "_law_spring"] (defScope s__law_shuts_right) := ⟨rfl, rfl, rfl, by decide +kernel, rfl, by decide +kernel, by decide +kernel⟩
abbrev s__law_sight_right : Stmt := top 98
abbrev nm__law_sight_right : List Str := ["_law_purse_here", "_law_ground", "_law_x", "_law_z", "_law_far", "_law_wide", "_law_deep", "_law_one", "_law_other", "_law_high", "_law_there", "_law_back", "_law_more", "_law_top", "_law_bottom", "_law_sides", "_law_k", "_law_spot_here"]
theorem sc__law_sight_right : FnScope nm__law_sight_right ["_law_purse_here", "_law_ground"] (defScope s__law_sight_right) := ⟨rfl, rfl, rfl, by decide +kernel, rfl, by decide +kernel, by decide +kernel⟩
abbrev s_law : Stmt := top 99
abbrev nm_law : List Str := ["_law_script", "_law_cell", "_law_purse_here", "_law_field", "_law_box_here", "_law_ground", "_law_edit", "_law_spring", "_law_turn"]
theorem sc_law : FnScope nm_law ["_law_script"] (defScope s_law) := ⟨rfl, rfl, rfl, by decide +kernel, rfl, by decide +kernel, by decide +kernel⟩
theorem bt_len : bootBuiltins "len" = some (.builtin "len") := by decide +kernel
theorem bt_isinstance : bootBuiltins "isinstance" = some (.builtin "isinstance") := by decide +kernel
theorem bt_min : bootBuiltins "min" = some (.builtin "min") := by decide +kernel
theorem bt_max : bootBuiltins "max" = some (.builtin "max") := by decide +kernel
theorem bt_abs : bootBuiltins "abs" = some (.builtin "abs") := by decide +kernel
theorem bt_all : bootBuiltins "all" = some (.builtin "all") := by decide +kernel
theorem bt_sum : bootBuiltins "sum" = some (.builtin "sum") := by decide +kernel
theorem bt_sorted : bootBuiltins "sorted" = some (.builtin "sorted") := by decide +kernel
theorem bt_divmod : bootBuiltins "divmod" = some (.builtin "divmod") := by decide +kernel
theorem bt_range : bootBuiltins "range" = some (.type "range") := by decide +kernel
theorem bt_zip : bootBuiltins "zip" = some (.type "zip") := by decide +kernel
theorem bt_enumerate : bootBuiltins "enumerate" = some (.type "enumerate") := by decide +kernel
theorem bt_tuple : bootBuiltins "tuple" = some (.type "tuple") := by decide +kernel
theorem bt_list : bootBuiltins "list" = some (.type "list") := by decide +kernel
theorem bt_int : bootBuiltins "int" = some (.type "int") := by decide +kernel
theorem bt_dict : bootBuiltins "dict" = some (.type "dict") := by decide +kernel
theorem bt_bool : bootBuiltins "bool" = some (.type "bool") := by decide +kernel
theorem bt_str : bootBuiltins "str" = some (.type "str") := by decide +kernel
/-- addresses at the top -/
structure Ad where
  C : Addr
  W : Addr
  B : Addr
  b1 : Addr
  b2 : Addr
  b3 : Addr
  b4 : Addr
  F : Addr
  R : Addr
  S : Addr
  rN : Addr
  rS : Addr
  rL : Addr
  rD : Addr
  rM : Addr
structure Txt (K : PySem.W.Frag) (w : World) (mg : Str → Option Value) (D : Ad) : Prop where
  FIRST : ∃ t, mg "FIRST" = some (.int 2147483647 t)
  SECOND : ∃ t, mg "SECOND" = some (.int 2147483629 t)
  THIRD : ∃ t, mg "THIRD" = some (.int 2147483587 t)
  LAST : ∃ t, mg "LAST" = some (.int 2147483579 t)
  MOST : ∃ t, mg "MOST" = some (.int 65536 t)
  FAREST : ∃ t, mg "FAREST" = some (.int 1000000 t)
  MOST_FIELDS : ∃ t, mg "MOST_FIELDS" = some (.int 200 t)
  MOST_SQUARES : ∃ t, mg "MOST_SQUARES" = some (.int 64 t)
  MOST_KNOT : ∃ t, mg "MOST_KNOT" = some (.int 65535 t)
  GREAT : ∃ t, mg "GREAT" = some (.int 1000000000000000000000000000000 t)
  MOST_POINTS : ∃ t, mg "MOST_POINTS" = some (.int 1024 t)
  MOST_MEMORY : ∃ t, mg "MOST_MEMORY" = some (.int 1000 t)
  MOST_EDITS : ∃ t, mg "MOST_EDITS" = some (.int 60 t)
  MOST_SHIFT_land : ∃ t, mg "MOST_SHIFT_land" = some (.int 1000 t)
  MOST_FIGURES : ∃ t, mg "MOST_FIGURES" = some (.int 999999999 t)
  MOST_EYE : ∃ t, mg "MOST_EYE" = some (.int 1000 t)
  FARTHEST : ∃ t, mg "FARTHEST" = some (.int 200 t)
  f_len : mg "len" = none
  f_isinstance : mg "isinstance" = none
  f_min : mg "min" = none
  f_max : mg "max" = none
  f_abs : mg "abs" = none
  f_all : mg "all" = none
  f_sum : mg "sum" = none
  f_sorted : mg "sorted" = none
  f_divmod : mg "divmod" = none
  f_range : mg "range" = none
  f_zip : mg "zip" = none
  f_enumerate : mg "enumerate" = none
  f_tuple : mg "tuple" = none
  f_list : mg "list" = none
  f_int : mg "int" = none
  f_dict : mg "dict" = none
  f_bool : mg "bool" = none
  f_str : mg "str" = none
  cl : Cls K D.C
  n_base : NoAttr K D.C "base"
  n_grain : NoAttr K D.C "grain"
  n_code : NoAttr K D.C "code"
  n_codes : NoAttr K D.C "codes"
  n_laid : NoAttr K D.C "laid"
  n_last : NoAttr K D.C "last"
  n_past : NoAttr K D.C "past"
  n_future : NoAttr K D.C "future"
  n_room : NoAttr K D.C "room"
  n_shelf : NoAttr K D.C "shelf"
  WHOLE_LAND : mg "WHOLE_LAND" = some (.ref D.W)
  qW : ∀ H, SqT K H D.W [.int (-1000000), .int (-1000000), .int 1000000, .int 1000000]
  BESIDE : mg "BESIDE" = some (.ref D.B)
  qB : ∀ H, SqT K H D.B [.ref D.b1, .ref D.b2, .ref D.b3, .ref D.b4]
  qb1 : ∀ H, SqT K H D.b1 [.int (1), .int (0)]
  qb2 : ∀ H, SqT K H D.b2 [.int (0), .int (1)]
  qb3 : ∀ H, SqT K H D.b3 [.int (-1), .int (0)]
  qb4 : ∀ H, SqT K H D.b4 [.int (0), .int (-1)]
  FORMS : mg "FORMS" = some (.ref D.F)
  lF : (D.F == sysModules) = false
  k_whole : KDct K w D.F "whole" (.str "N")
  k_x : KDct K w D.F "x" (.str "")
  k_z : KDct K w D.F "z" (.str "")
  k_noise : KDct K w D.F "noise" (.str "SL")
  k_plus : KDct K w D.F "plus" (.str "FF")
  k_less : KDct K w D.F "less" (.str "FF")
  k_times : KDct K w D.F "times" (.str "FF")
  k_least : KDct K w D.F "least" (.str "FF")
  k_most : KDct K w D.F "most" (.str "FF")
  k_over : KDct K w D.F "over" (.str "FD")
  k_below : KDct K w D.F "below" (.str "FFFF")
  k_shift : KDct K w D.F "shift" (.str "MMF")
  REACHES : mg "REACHES" = some (.ref D.R)
  r_N : KDct K w D.R "N" (.ref D.rN)
  q_N : ∀ H, SqT K H D.rN [.int (-999999999), .int (999999999)]
  r_S : KDct K w D.R "S" (.ref D.rS)
  q_S : ∀ H, SqT K H D.rS [.int (0), .int (1000000000)]
  r_L : KDct K w D.R "L" (.ref D.rL)
  q_L : ∀ H, SqT K H D.rL [.int (0), .int (8)]
  r_D : KDct K w D.R "D" (.ref D.rD)
  q_D : ∀ H, SqT K H D.rD [.int (1), .int (1000000000)]
  r_M : KDct K w D.R "M" (.ref D.rM)
  q_M : ∀ H, SqT K H D.rM [.int (-1000), .int (1000)]
  SORTS : mg "SORTS" = some (.ref D.S)
  lS : (D.S == sysModules) = false
  e_set : KDct K w D.S "set" (.int 3)
  e_raise : KDct K w D.S "raise" (.int 3)
  e_least : KDct K w D.S "least" (.int 3)
  e_most : KDct K w D.S "most" (.int 3)
  e_copy : KDct K w D.S "copy" (.int 4)
end Kw
set_option Elab.async false
set_option linter.all false
set_option maxRecDepth 100000
set_option maxHeartbeats 0
namespace KwH
open PySem PySem.Spec PyProof.Rows L2 Kw
def d_knot : He.DefD := ⟨("knot", none), "knot", "knot", defArgs s_knot, defBody s_knot, defScope s_knot, [], []⟩
def d_is_whole : He.DefD := ⟨("is_whole", none), "is_whole", "is_whole", defArgs s_is_whole, defBody s_is_whole, defScope s_is_whole, [], []⟩
def d_must_box : He.DefD := ⟨("must_box", none), "must_box", "must_box", defArgs s_must_box, defBody s_must_box, defScope s_must_box, [.non], []⟩
def d_must_point : He.DefD := ⟨("must_point", none), "must_point", "must_point", defArgs s_must_point, defBody s_must_point, defScope s_must_point, [], []⟩
def d_points_of : He.DefD := ⟨("points_of", none), "points_of", "points_of", defArgs s_points_of, defBody s_points_of, defScope s_points_of, [], []⟩
def d_must_kind : He.DefD := ⟨("must_kind", none), "must_kind", "must_kind", defArgs s_must_kind, defBody s_must_kind, defScope s_must_kind, [], []⟩
def d_must_things : He.DefD := ⟨("must_things", none), "must_things", "must_things", defArgs s_must_things, defBody s_must_things, defScope s_must_things, [], []⟩
def d_must_field : He.DefD := ⟨("must_field", none), "must_field", "must_field", defArgs s_must_field, defBody s_must_field, defScope s_must_field, [], []⟩
def d_parts_of : He.DefD := ⟨("parts_of", none), "parts_of", "parts_of", defArgs s_parts_of, defBody s_parts_of, defScope s_parts_of, [], []⟩
def d_size_of : He.DefD := ⟨("size_of", none), "size_of", "size_of", defArgs s_size_of, defBody s_size_of, defScope s_size_of, [], []⟩
def d_put : He.DefD := ⟨("put", none), "put", "put", defArgs s_put, defBody s_put, defScope s_put, [], []⟩
def d_steps_into : He.DefD := ⟨("steps_into", none), "steps_into", "steps_into", defArgs s_steps_into, defBody s_steps_into, defScope s_steps_into, [], []⟩
def d_steps_in : He.DefD := ⟨("steps_in", none), "steps_in", "steps_in", defArgs s_steps_in, defBody s_steps_in, defScope s_steps_in, [], []⟩
def d_must_rules : He.DefD := ⟨("must_rules", none), "must_rules", "must_rules", defArgs s_must_rules, defBody s_must_rules, defScope s_must_rules, [], []⟩
def d_noise_at : He.DefD := ⟨("noise_at", none), "noise_at", "noise_at", defArgs s_noise_at, defBody s_noise_at, defScope s_noise_at, [], []⟩
def d_reckoned : He.DefD := ⟨("reckoned", none), "reckoned", "reckoned", defArgs s_reckoned, defBody s_reckoned, defScope s_reckoned, [], []⟩
def d_run_steps : He.DefD := ⟨("run_steps", none), "run_steps", "run_steps", defArgs s_run_steps, defBody s_run_steps, defScope s_run_steps, [], []⟩
def d_noise_range : He.DefD := ⟨("noise_range", none), "noise_range", "noise_range", defArgs s_noise_range, defBody s_noise_range, defScope s_noise_range, [], []⟩
def d_range_of : He.DefD := ⟨("range_of", none), "range_of", "range_of", defArgs s_range_of, defBody s_range_of, defScope s_range_of, [], []⟩
def d_ranges_of : He.DefD := ⟨("ranges_of", none), "ranges_of", "ranges_of", defArgs s_ranges_of, defBody s_ranges_of, defScope s_ranges_of, [], []⟩
def d_holds : He.DefD := ⟨("holds", none), "holds", "holds", defArgs s_holds, defBody s_holds, defScope s_holds, [], []⟩
def d_must_within : He.DefD := ⟨("must_within", none), "must_within", "must_within", defArgs s_must_within, defBody s_must_within, defScope s_must_within, [], []⟩
def d_heights_in : He.DefD := ⟨("heights_in", none), "heights_in", "heights_in", defArgs s_heights_in, defBody s_heights_in, defScope s_heights_in, [], []⟩
def d_neighbours : He.DefD := ⟨("neighbours", none), "neighbours", "neighbours", defArgs s_neighbours, defBody s_neighbours, defScope s_neighbours, [], []⟩
def d_led : He.DefD := ⟨("led", none), "led", "led", defArgs s_led, defBody s_led, defScope s_led, [], []⟩
def d_must_spring : He.DefD := ⟨("must_spring", none), "must_spring", "must_spring", defArgs s_must_spring, defBody s_must_spring, defScope s_must_spring, [], []⟩
def d_at_edge : He.DefD := ⟨("at_edge", none), "at_edge", "at_edge", defArgs s_at_edge, defBody s_at_edge, defScope s_at_edge, [], []⟩
def d_wet_from : He.DefD := ⟨("wet_from", none), "wet_from", "wet_from", defArgs s_wet_from, defBody s_wet_from, defScope s_wet_from, [], []⟩
def d_first_out : He.DefD := ⟨("first_out", none), "first_out", "first_out", defArgs s_first_out, defBody s_first_out, defScope s_first_out, [], []⟩
def d_poured : He.DefD := ⟨("poured", none), "poured", "poured", defArgs s_poured, defBody s_poured, defScope s_poured, [], []⟩
def d_least_level : He.DefD := ⟨("least_level", none), "least_level", "least_level", defArgs s_least_level, defBody s_least_level, defScope s_least_level, [], []⟩
def d_must_edit : He.DefD := ⟨("must_edit", none), "must_edit", "must_edit", defArgs s_must_edit, defBody s_must_edit, defScope s_must_edit, [], []⟩
def d_has_point : He.DefD := ⟨("has_point", none), "has_point", "has_point", defArgs s_has_point, defBody s_has_point, defScope s_has_point, [], []⟩
def d_range_after : He.DefD := ⟨("range_after", none), "range_after", "range_after", defArgs s_range_after, defBody s_range_after, defScope s_range_after, [], []⟩
def d_overlays : He.DefD := ⟨("overlays", none), "overlays", "overlays", defArgs s_overlays, defBody s_overlays, defScope s_overlays, [], []⟩
def d_Land___init__ : He.DefD := ⟨("Land", some "__init__"), "__init__", "Land.__init__", defArgs s_Land___init__, defBody s_Land___init__, defScope s_Land___init__, [], [("memory", .int 64)]⟩
def d_Land_height_by : He.DefD := ⟨("Land", some "height_by"), "height_by", "Land.height_by", defArgs s_Land_height_by, defBody s_Land_height_by, defScope s_Land_height_by, [], []⟩
def d_Land_height_at : He.DefD := ⟨("Land", some "height_at"), "height_at", "Land.height_at", defArgs s_Land_height_at, defBody s_Land_height_at, defScope s_Land_height_at, [], []⟩
def d_Land_height : He.DefD := ⟨("Land", some "height"), "height", "Land.height", defArgs s_Land_height, defBody s_Land_height, defScope s_Land_height, [], []⟩
def d_Land_change : He.DefD := ⟨("Land", some "change"), "change", "Land.change", defArgs s_Land_change, defBody s_Land_change, defScope s_Land_change, [], []⟩
def d_Land_noted : He.DefD := ⟨("Land", some "noted"), "noted", "Land.noted", defArgs s_Land_noted, defBody s_Land_noted, defScope s_Land_noted, [], []⟩
def d_Land_put : He.DefD := ⟨("Land", some "put"), "put", "Land.put", defArgs s_Land_put, defBody s_Land_put, defScope s_Land_put, [], []⟩
def d_Land_edit : He.DefD := ⟨("Land", some "edit"), "edit", "Land.edit", defArgs s_Land_edit, defBody s_Land_edit, defScope s_Land_edit, [], []⟩
def d_Land_back : He.DefD := ⟨("Land", some "back"), "back", "Land.back", defArgs s_Land_back, defBody s_Land_back, defScope s_Land_back, [], []⟩
def d_nearest : He.DefD := ⟨("nearest", none), "nearest", "nearest", defArgs s_nearest, defBody s_nearest, defScope s_nearest, [], []⟩
def d_lowest : He.DefD := ⟨("lowest", none), "lowest", "lowest", defArgs s_lowest, defBody s_lowest, defScope s_lowest, [], []⟩
def d_sees : He.DefD := ⟨("sees", none), "sees", "sees", defArgs s_sees, defBody s_sees, defScope s_sees, [], [("eye", .int 2)]⟩
def d__law_at : He.DefD := ⟨("_law_at", none), "_law_at", "_law_at", defArgs s__law_at, defBody s__law_at, defScope s__law_at, [], []⟩
def d__law_mixed : He.DefD := ⟨("_law_mixed", none), "_law_mixed", "_law_mixed", defArgs s__law_mixed, defBody s__law_mixed, defScope s__law_mixed, [], []⟩
def d__law_purse : He.DefD := ⟨("_law_purse", none), "_law_purse", "_law_purse", defArgs s__law_purse, defBody s__law_purse, defScope s__law_purse, [], []⟩
def d__law_draw : He.DefD := ⟨("_law_draw", none), "_law_draw", "_law_draw", defArgs s__law_draw, defBody s__law_draw, defScope s__law_draw, [], []⟩
def d__law_rules : He.DefD := ⟨("_law_rules", none), "_law_rules", "_law_rules", defArgs s__law_rules, defBody s__law_rules, defScope s__law_rules, [], []⟩
def d__law_edits : He.DefD := ⟨("_law_edits", none), "_law_edits", "_law_edits", defArgs s__law_edits, defBody s__law_edits, defScope s__law_edits, [], []⟩
def d__law_box : He.DefD := ⟨("_law_box", none), "_law_box", "_law_box", defArgs s__law_box, defBody s__law_box, defScope s__law_box, [], []⟩
def d__law_spot : He.DefD := ⟨("_law_spot", none), "_law_spot", "_law_spot", defArgs s__law_spot, defBody s__law_spot, defScope s__law_spot, [], []⟩
def d__law_levels_right : He.DefD := ⟨("_law_levels_right", none), "_law_levels_right", "_law_levels_right", defArgs s__law_levels_right, defBody s__law_levels_right, defScope s__law_levels_right, [], []⟩
def d__law_shuts_right : He.DefD := ⟨("_law_shuts_right", none), "_law_shuts_right", "_law_shuts_right", defArgs s__law_shuts_right, defBody s__law_shuts_right, defScope s__law_shuts_right, [], []⟩
def d__law_sight_right : He.DefD := ⟨("_law_sight_right", none), "_law_sight_right", "_law_sight_right", defArgs s__law_sight_right, defBody s__law_sight_right, defScope s__law_sight_right, [], []⟩
def d_law : He.DefD := ⟨("law", none), "law", "law", defArgs s_law, defBody s_law, defScope s_law, [], []⟩
def fn0 : List He.DefD := [d_knot, d_is_whole, d_must_box, d_must_point, d_points_of, d_must_kind, d_must_things, d_must_field, d_parts_of, d_size_of, d_put, d_steps_into]
def fn1 : List He.DefD := [d_steps_in, d_must_rules, d_noise_at, d_reckoned, d_run_steps, d_noise_range, d_range_of, d_ranges_of, d_holds, d_must_within, d_heights_in, d_neighbours]
def fn2 : List He.DefD := [d_led, d_must_spring, d_at_edge, d_wet_from, d_first_out, d_poured, d_least_level, d_must_edit, d_has_point, d_range_after, d_overlays, d_Land___init__]
def fn3 : List He.DefD := [d_Land_height_by, d_Land_height_at, d_Land_height, d_Land_change, d_Land_noted, d_Land_put, d_Land_edit, d_Land_back, d_nearest, d_lowest, d_sees, d__law_at]
def fn4 : List He.DefD := [d__law_mixed, d__law_purse, d__law_draw, d__law_rules, d__law_edits, d__law_box, d__law_spot, d__law_levels_right, d__law_shuts_right, d__law_sight_right, d_law]
def fa0 : List He.Fa := [.glo "knot", .glo "is_whole", .glo "must_box", .glo "must_point", .glo "points_of", .glo "must_kind", .glo "must_things", .glo "must_field", .glo "parts_of", .glo "size_of", .glo "put", .glo "steps_into", .glo "steps_in", .glo "must_rules", .glo "noise_at", .glo "reckoned", .glo "run_steps", .glo "noise_range", .glo "range_of", .glo "ranges_of", .glo "holds", .glo "must_within", .glo "heights_in", .glo "neighbours", .glo "led", .glo "must_spring", .glo "at_edge", .glo "wet_from", .glo "first_out", .glo "poured", .glo "least_level", .glo "must_edit", .glo "has_point", .glo "range_after", .glo "overlays", .glo "nearest", .glo "lowest", .glo "sees", .glo "_law_at", .glo "_law_mixed"]
def fa1 : List He.Fa := [.glo "_law_purse", .glo "_law_draw", .glo "_law_rules", .glo "_law_edits", .glo "_law_box", .glo "_law_spot", .glo "_law_levels_right", .glo "_law_shuts_right", .glo "_law_sight_right", .glo "law", .glo "Land", .glo "WHOLE_LAND", .glo "FORMS", .glo "REACHES", .glo "BESIDE", .glo "SORTS", .free "len", .free "isinstance", .free "min", .free "max", .free "all", .free "abs", .free "sum", .free "range", .free "zip", .free "enumerate", .free "tuple", .free "list", .free "sorted", .free "int", .free "divmod", .free "dict", .free "bool", .free "str", .int "FIRST" (2147483647), .int "SECOND" (2147483629), .int "THIRD" (2147483587), .int "LAST" (2147483579), .int "MOST" (65536), .int "FAREST" (1000000)]
def fa2 : List He.Fa := [.int "MOST_FIELDS" (200), .int "MOST_SQUARES" (64), .int "MOST_KNOT" (65535), .int "MOST_SHIFT_fields" (1000), .int "MOST_SEED" (1000000000), .int "GREAT" (1000000000000000000000000000000), .int "NINE" (1000000000), .int "MOST_POINTS" (1024), .int "MEMORY" (64), .int "MOST_MEMORY" (1000), .int "MOST_EDITS" (60), .int "MOST_SHIFT_land" (1000), .int "MOST_FIGURES" (999999999), .int "EYE" (2), .int "MOST_EYE" (1000), .int "FARTHEST" (200), .cls "Land", .noat "Land" "base", .noat "Land" "grain", .noat "Land" "code", .noat "Land" "codes", .noat "Land" "laid", .noat "Land" "last", .noat "Land" "past", .noat "Land" "future", .noat "Land" "room", .noat "Land" "shelf", .meth "Land" "height_by", .meth "Land" "height_at", .meth "Land" "height", .meth "Land" "change", .meth "Land" "noted", .meth "Land" "put", .meth "Land" "edit", .meth "Land" "back", .mkr "Land"]
def tFORMS : He.Tab := (fun K => He.ga K "FORMS", ["whole", "x", "z", "noise", "plus", "less", "times", "least", "most", "over", "below", "shift", "let", "name"])
def tREACHES : He.Tab := (fun K => He.ga K "REACHES", ["N", "S", "L", "D", "M"])
def tSORTS : He.Tab := (fun K => He.ga K "SORTS", ["set", "raise", "least", "most", "field", "copy"])
def ts : List He.Tab := [tFORMS, tREACHES, tSORTS]
/-- a tuple of the written part at an address -/
def tupAtB (K : PySem.W.Frag) (a : Addr) (vs : List V) : Bool := match K.lookup a with
  | some ⟨.type c, _, .seq its _, _⟩ => decide (c = "tuple") && (decide (its.size ≤ sizeLine) && He.relAll vs its.toList)
  | _ => false
def itemAt (K : PySem.W.Frag) (a : Addr) (i : Nat) : Addr := match K.lookup a with
  | some ⟨_, _, .seq its _, _⟩ => (match its.toList[i]? with
    | some (.ref b) => b
    | _ => 0)
  | _ => 0
def dictAt (K : PySem.W.Frag) (a : Addr) (k : Str) : Addr := match PySem.W.nsIn K a k with
  | some (some (.ref b)) => b
  | _ => 0
def vFORMS : List (Str × He.Dv) := [("whole", .str "N"), ("x", .str ""), ("z", .str ""), ("noise", .str "SL"), ("plus", .str "FF"), ("less", .str "FF"), ("times", .str "FF"), ("least", .str "FF"), ("most", .str "FF"), ("over", .str "FD"), ("below", .str "FFFF"), ("shift", .str "MMF"), ("let", .str "WFF"), ("name", .str "W")]
def vSORTS : List (Str × He.Dv) := [("set", .int 3), ("raise", .int 3), ("least", .int 3), ("most", .int 3), ("field", .int 3), ("copy", .int 4)]
def vREACHES : List (Str × (Int × Int)) := [("N", (-999999999, 999999999)), ("S", (0, 1000000000)), ("L", (0, 8)), ("D", (1, 1000000000)), ("M", (-1000, 1000))]
def reachB (K : PySem.W.Frag) (q : Str × (Int × Int)) : Bool := He.relB (.ref (dictAt K (He.ga K "REACHES") q.1)) (match PySem.W.nsIn K (He.ga K "REACHES") q.1 with
  | some (some u) => u
  | _ => .none) && tupAtB K (dictAt K (He.ga K "REACHES") q.1) [.int q.2.1, .int q.2.2]
def besideL : List (Int × Int) := [(1, 0), (0, 1), (-1, 0), (0, -1)]
def besideB (K : PySem.W.Frag) : Bool := tupAtB K (He.ga K "BESIDE") ((List.range 4).map fun i => .ref (itemAt K (He.ga K "BESIDE") i)) &&
  (List.range 4).all fun i => tupAtB K (itemAt K (He.ga K "BESIDE") i) [.int (besideL.getD i (0, 0)).1, .int (besideL.getD i (0, 0)).2]
def ex (K : PySem.W.Frag) : Bool := (He.valsB K (He.ga K "FORMS") vFORMS && He.valsB K (He.ga K "SORTS") vSORTS) && ((vREACHES.all (reachB K) && besideB K) && tupAtB K (He.ga K "WHOLE_LAND") [.int (-1000000), .int (-1000000), .int 1000000, .int 1000000])
def adr : List Addr := [3, 162, 163, 164, 165, 166, 167, 168, 169, 170, 171, 177, 178, 184, 190, 191, 197, 198, 202, 203, 209, 210, 216, 217, 223, 224, 228, 229, 233, 234, 240, 241, 245, 246, 252, 253, 259, 260, 266, 267, 273, 274, 280, 281, 292, 293, 297, 298, 304, 305, 311, 312, 313, 314, 315, 316, 317, 323, 324, 328, 329, 333, 334, 340, 341, 347, 348, 354, 355, 361, 362, 366, 367, 373, 374, 378, 379, 380, 384, 385, 391, 392, 398, 399, 405, 406, 414, 420, 421, 460, 461, 467, 468, 474, 475, 523, 524, 530, 531, 544, 545, 565, 566, 607, 608, 631, 632, 642, 643, 649, 650, 651, 657, 658, 664, 665, 671, 672, 678, 679, 685, 686, 692, 693, 699, 700, 706, 707, 713, 714, 718, 719, 725, 726, 730, 731, 737, 738]
/-- the written part that the walk leans on -/
def KG (g : Addr → Option Obj) : PySem.W.Frag := He.frG g adr
def nm0 : List PySem.Str := ["_wall", "LandError", "NoRules", "NoBox", "NoPoint", "NoCount", "NoEdit", "Full", "NoDeed", "NoSuch", "FIRST", "SECOND", "THIRD", "LAST", "MOST"]
def nm1 : List PySem.Str := ["knot", "FAREST", "MOST_FIELDS", "MOST_SQUARES", "MOST_KNOT", "MOST_SHIFT_fields", "MOST_SEED", "GREAT", "NINE", "LETTERS", "WHOLE_LAND", "FORMS", "REACHES", "is_whole", "is_name"]
def nm2 : List PySem.Str := ["must_box", "must_point", "points_of", "must_kind", "must_things", "must_field", "parts_of", "size_of", "put", "steps_into", "steps_in", "must_rules", "noise_at", "reckoned", "run_steps"]
def nm3 : List PySem.Str := ["cuts", "noise_range", "range_of", "ranges_of", "holds", "BESIDE", "must_within", "heights_in", "neighbours", "led", "MOST_POINTS", "must_spring", "at_edge", "wet_from", "first_out"]
def nm4 : List PySem.Str := ["poured", "least_level", "MEMORY", "MOST_MEMORY", "MOST_EDITS", "MOST_SHIFT_land", "MOST_FIGURES", "SORTS", "must_edit", "has_point", "range_after", "overlays", "Land", "EYE", "MOST_EYE"]
def nm5 : List PySem.Str := ["FARTHEST", "nearest", "lowest", "sees", "_law_at", "_law_mixed", "_law_purse", "_law_draw", "_law_rules", "_law_edits", "_law_box", "_law_spot", "_law_levels_right", "_law_shuts_right", "_law_sight_right"]
def names : List PySem.Str := nm0 ++ nm1 ++ nm2 ++ nm3 ++ nm4 ++ nm5
open PySem.W PyProof.Rows in
abbrev R : PySem.W.OpenRow := PySem.W.OpenLaw.row PySem.Challenge.rw_landweave_k95_whole_water_and_sight
open PySem.W in
noncomputable def endR (w : World) (os : OsState) : Option SharedT := HandSHeadRun.endF (HandSHeadRun.stepQ (HandSHeadRun.denQ HandSHeadRun.tabQ) R.prog w) 6000 R.prog w os
def viewQ : Program := PySem.W.view R.prog [99]
def obF0 (K : PySem.W.Frag) : Bool := fa0.all fun f => f.ok K
def vlF0 (w : World) : Bool := true
def obF1 (K : PySem.W.Frag) : Bool := fa1.all fun f => f.ok K
def vlF1 (w : World) : Bool := true
def obF2 (K : PySem.W.Frag) : Bool := fa2.all fun f => f.ok K
def vlF2 (w : World) : Bool := true
def obD0 (K : PySem.W.Frag) : Bool × List He.FnW := (fn0.all fun d => d.ok K, fn0.map fun d => He.fnW K d.at_)
def vlD0 (w : World) : Bool × List He.FnW := (true, fn0.map He.DefD.val)
def obD1 (K : PySem.W.Frag) : Bool × List He.FnW := (fn1.all fun d => d.ok K, fn1.map fun d => He.fnW K d.at_)
def vlD1 (w : World) : Bool × List He.FnW := (true, fn1.map He.DefD.val)
def obD2 (K : PySem.W.Frag) : Bool × List He.FnW := (fn2.all fun d => d.ok K, fn2.map fun d => He.fnW K d.at_)
def vlD2 (w : World) : Bool × List He.FnW := (true, fn2.map He.DefD.val)
def obD3 (K : PySem.W.Frag) : Bool × List He.FnW := (fn3.all fun d => d.ok K, fn3.map fun d => He.fnW K d.at_)
def vlD3 (w : World) : Bool × List He.FnW := (true, fn3.map He.DefD.val)
def obD4 (K : PySem.W.Frag) : Bool × List He.FnW := (fn4.all fun d => d.ok K, fn4.map fun d => He.fnW K d.at_)
def vlD4 (w : World) : Bool × List He.FnW := (true, fn4.map He.DefD.val)
def obT (K : PySem.W.Frag) : List (Option (List (Option (Str × Int)))) := ts.map fun t => He.dicW K (t.1 K)
def vlT (w : World) : List (Option (List (Option (Str × Int)))) := ts.map fun t => some (He.keysIn w.params t.2)
def obX (K : PySem.W.Frag) : Bool := ex K
def vlX (w : World) : Bool := true
abbrev TyA : Type := (Bool) × (Bool) × (Bool) × (Bool × List He.FnW) × (Bool × List He.FnW) × (Bool × List He.FnW) × (Bool × List He.FnW) × (Bool × List He.FnW) × (List (Option (List (Option (Str × Int))))) × (Bool)
def gbA (K : PySem.W.Frag) : TyA := (obF0 K, obF1 K, obF2 K, obD0 K, obD1 K, obD2 K, obD3 K, obD4 K, obT K, obX K)
def gvA (w : World) : TyA := (vlF0 w, vlF1 w, vlF2 w, vlD0 w, vlD1 w, vlD2 w, vlD3 w, vlD4 w, vlT w, vlX w)
open PySem.W PySem.Calls in
theorem runAll (w : World) (os : OsState) : (endR w os).map (fun s => (HandSHeadRun.looksF R.prog (PySem.W.boot_heap w.params) s.abs, HandSHeadRun.seenQ viewQ names (importedModules R.prog.main.body) (fun s => PySem.W.xlAt viewQ [] s && PySem.W.recOk R.toRowW.records s) s.abs, gbA (KG (HandSHeadRun.getT s)))) = some (true, PySem.W.openGood viewQ names, gvA w) := by
  refine PySem.W.byRow2 "special-get-raises" (P := fun w => ∀ os : OsState, (endR w os).map (fun s => (HandSHeadRun.looksF R.prog (PySem.W.boot_heap w.params) s.abs, HandSHeadRun.seenQ viewQ names (importedModules R.prog.main.body) (fun s => PySem.W.xlAt viewQ [] s && PySem.W.recOk R.toRowW.records s) s.abs, gbA (KG (HandSHeadRun.getT s)))) = some (true, PySem.W.openGood viewQ names, gvA w)) (fun w os => ?_) (fun w os => ?_) w os
  · kernel_rfl
  · kernel_rfl
end KwH
set_option Elab.async false
set_option linter.all false
set_option maxRecDepth 100000
set_option maxHeartbeats 2000000
/-! Rules of the hand layer that it lacks. -/
namespace Kw
open PySem PySem.Spec PyProof.Rows L2

/-! ### names of the module by an existence -/
section
variable {X : Cx}
theorem pe_gi {x : Str} {i : Int} {pos : Pos} (h : ∃ t, X.mg x = some (.int i t)) (hg : Gl X x) (hd : (x == ("__debug__" : Str)) = false := by decide) : PE X (.Name x pos) (tC (.int i)) := by
  obtain ⟨t, h⟩ := h
  exact pe_glob hg h ⟨t, rfl⟩ hd
theorem pe_gr {x : Str} {a : Addr} {pos : Pos} (h : X.mg x = some (.ref a)) (hg : Gl X x) (hd : (x == ("__debug__" : Str)) = false := by decide) : PE X (.Name x pos) (tC (.ref a)) := pe_glob hg h rfl hd
/-- a test that is never asked -/
theorem pt_never {e : Expr} : PT X e (fun _ _ _ => False) := ⟨fun _ _ _ _ _ _ h => h.elim⟩
theorem pe_never {e : Expr} : PE X e (fun _ _ _ => False) := ⟨fun _ _ _ _ _ _ h => h.elim⟩
end

/-! ### a, b, *rest = a tuple -/
section
variable {X : Cx} {pos : Pos}
theorem star_raw {prog : Program} {w : World} {A : Around} {E : Value → Shared → Prop} {s : Shared} {l : Addr} {items : Array Value} {n i : Nat} {Q : List Value → Shared → Prop} (hl : IsTup s.heap l items) (hh : A.handled = none) (hn : n = i + 1) (hi : i ≤ items.size) (hz : items.size ≤ sizeLine)
    (h : ∀ (h' : Heap) (tk : Nat), (∀ b o, s.heap.get? b = some o → h'.get? b = some o) → Q (items.toList.take i ++ [.ref h'.objs.size]) { s with heap := h'.push { cls := .type "list", data := .seq (items.toList.drop i).toArray }, toks := tk }) :
    wpAny (model prog w) A (unpackItems (.ref l) n (some i)) Q E s := by
  subst hn
  have hlt : l ≠ s.heap.objs.size := by obtain ⟨o, ho, _⟩ := hl; exact Nat.ne_of_lt (Heap.lt_size ho)
  have hll : l < s.heap.objs.size := by obtain ⟨o, ho, _⟩ := hl; exact Heap.lt_size ho
  unfold unpackItems
  refine wpAny_bind ?_
  unfold notIterableAtAll
  refine wpAny_bind (wpAny_specialOf hl.typeIs PySem.F.slot_tuple_iter.lookup ?_)
  refine wpAny_pure ?_
  simp only [Bool.false_eq_true, if_false]
  refine wpAny_bind (wpAny_holding (iter_tuple hl ?_))
  refine wpAny_bind (wpAny_holding (draw_tuple hlt i 0 _ _ ⟨_, Heap.get?_push_size _ rfl, rfl, rfl⟩ (hl.push _) (by omega) fun h₁ hit₁ hs₁ => ?_))
  have hl₁ : IsTup h₁ l items := (hl.push _).extBut hs₁.extBut hlt
  rw [Nat.zero_add] at hit₁
  have hit₁' := hit₁
  obtain ⟨oi, hoi, _⟩ := hit₁'
  have hl₁' := hl₁
  obtain ⟨ol, hol, _⟩ := hl₁'
  rw [List.drop_zero]
  have hfl : (items.toList.take i).length = i := by rw [List.length_take, Array.length_toList]; omega
  rw [if_neg (show ¬ ((items.toList.take i).length < i) by rw [hfl]; omega)]
  refine wpAny_bind (wpAny_holding (PySem.W.kun_collect (s := { s with heap := h₁ }) (T := "tuple_iterator") (.inr (.inr (.inr rfl))) (Walks.tuple (A := A.in1) hh s.heap.objs.size l hlt items) (fun j u st => st.1.typeIs) (k := i) (by omega) ⟨hit₁, hl₁⟩ (Heap.lt_size hoi) (Heap.lt_size hol) (fun h₂ tk hk => ?_) hz))
  have hrl : (items.toList.drop i).length = items.size - i := by rw [List.length_drop, Array.length_toList]
  show wpAny _ _ (if (items.toList.drop i).length < i + 1 - 1 - i then _ else _) _ _ _
  rw [if_neg (by rw [hrl]; omega)]
  have hmid : (items.toList.drop i).length - (i + 1 - 1 - i) = (items.toList.drop i).length := by omega
  show wpAny _ _ (newList ((items.toList.drop i).take ((items.toList.drop i).length - (i + 1 - 1 - i))) >>= fun d => pure (items.toList.take i ++ [d] ++ (items.toList.drop i).drop ((items.toList.drop i).length - (i + 1 - 1 - i)))) _ _ _
  rw [hmid, List.take_length, List.drop_length]
  have he : ∀ b o, s.heap.get? b = some o → h₂.get? b = some o := fun b o e => hk b o (Nat.ne_of_lt (Heap.lt_size e)) (hs₁.extBut b o (Nat.ne_of_lt (Heap.lt_size e)) (Heap.get?_push_of_some _ e))
  refine wpAny_bind (wpAny_newList (wpAny_pure ?_) (by rw [hrl]; omega))
  rw [List.append_nil]
  exact h h₂ tk he
def gStar (K : PySem.W.Frag) (i : Nat) (t : TGs) : TG := fun v σ H Q => ∃ a xs, v = .ref a ∧ SqT K H a xs ∧ i ≤ xs.length ∧ ∀ D, H D = none → t (xs.take i ++ [.ref D]) σ (upd H D (.lst (xs.drop i))) Q
theorem pgs_star {e : Expr} {p : Pos} {t : TG} (h1 : PG X e t) (hs : (assignEach [.Starred e p] X.env).map (·.2) = [assign e X.env] := by rfl) : PGs X [.Starred e p] (gCons t gNil) := by
  refine ⟨fun pins s σ H vs us Q I r h => ?_⟩
  obtain ⟨v, vr, e1, h⟩ := h
  subst e1
  cases r with
  | cons r rr =>
    rw [hs]
    refine assignInOrder_cons (thn (h1.run pins s σ H _ _ _ I r h) fun _ s1 ⟨σ1, H1, I1, q1⟩ => ?_)
    obtain ⟨e2, q2⟩ := q1
    subst e2
    cases rr
    exact assignInOrder_nil ⟨σ1, H1, I1, q2⟩
theorem pg_star {es : List Expr} {k i : Nat} {t : TGs} (hc : X.calm = true) (h : PGs X es t) (hn : (assignEach es X.env).length = i + 1 := by rfl) (hst : (assignEach es X.env).findIdx? (·.1) = some i := by rfl) : PG X (.Tuple es k pos) (gStar X.K i t) := by
  refine ⟨fun pins s σ H v u Q I r hw => ?_⟩
  obtain ⟨a, xs, e1, hq, hl, hw⟩ := hw
  subst e1
  cases r
  obtain ⟨its, rv, ht, hz⟩ := I.tuple hq
  have hlen := rv.length
  rw [PyProof.Rows.assign_Tuple]
  refine wpAny_bind (wpAny_standAt ?_)
  unfold unpack
  rw [hn, hst]
  refine wpAny_bind (wpAny_holding (star_raw ht (I.ok.hd hc) rfl (by simp; omega) (by simp; omega) fun h' tk hk => ?_))
  have I1 : Inv X pins σ H { s with heap := h', toks := tk } := I.kept hk
  have I2 := Inv.lnew (its := its.drop i) (ys := xs.drop i) (t' := tk) I1 (rv.drop i) (by rw [List.length_drop]; omega)
  have rv2 : Vals (xs.take i ++ [V.ref h'.objs.size]) (its.take i ++ [Value.ref h'.objs.size]) := (rv.take i).append (.cons rfl .nil)
  exact h.run pins _ σ _ _ _ Q I2 (by simpa using rv2) (hw _ I1.fresh)
end
end Kw
set_option Elab.async false
set_option linter.all false
set_option maxRecDepth 100000
set_option maxHeartbeats 2000000
/-! Rules of the hand layer that it lacks, the second part. -/
namespace Kw
open PySem PySem.Spec PyProof.Rows L2

/-! ### a def as its callers know it -/
structure Has (P : Program) (w : World) (K : PySem.W.Frag) (mg : Str → Option Value) (base : Heap) (k : Nat) (x : Str) (sp : Sp) (dvs : List V) : Prop where
  ex : ∃ (f : Addr) (fd : FuncData) (ps : List Str) (ds : List Value), mg x = some (.ref f) ∧ PySem.W.keepIn K (.ref f) = true ∧ FnOk P w K mg base CX0 k f fd ps sp ∧ Vals dvs ds ∧ Binds K fd ps ds
/-- .. called with n positional values and the keywords ks -/
structure HasK (P : Program) (w : World) (K : PySem.W.Frag) (mg : Str → Option Value) (base : Heap) (k : Nat) (x : Str) (sp : Sp) (n : Nat) (ks : List Str) (gV : List V → List V → List V) : Prop where
  ex : ∃ (f : Addr) (fd : FuncData) (ps : List Str) (g : List Value → List Value → List Value), mg x = some (.ref f) ∧ PySem.W.keepIn K (.ref f) = true ∧ FnOk P w K mg base CX0 k f fd ps sp ∧ KBn K fd ps n ks g gV
/-- a method of the class at C -/
structure HasM (P : Program) (w : World) (K : PySem.W.Frag) (mg : Str → Option Value) (base : Heap) (k : Nat) (C : Addr) (m : Str) (sp : Sp) : Prop where
  ex : ∃ (f : Addr) (fd : FuncData) (ps : List Str), Meth K C m f ∧ FnOk P w K mg base CX0 k f fd ps sp ∧ Binds K fd ps []
/-- a class, made by its __init__ -/
structure HasC (P : Program) (w : World) (K : PySem.W.Frag) (mg : Str → Option Value) (base : Heap) (k : Nat) (x : Str) (C : Addr) (sp : Sp) (dvs : List V) : Prop where
  ex : ∃ (f : Addr) (fd : FuncData) (ps : List Str) (ds : List Value), mg x = some (.ref C) ∧ Mk K C f ∧ FnOk P w K mg base CX0 k f fd ps sp ∧ Vals dvs ds ∧ Binds K fd ps ds
section
variable {X : Cx} {k n : Nat} {x m : Str} {sp : Sp} {dvs : List V} {C : Addr} {p pos apos : Pos} {e o : Expr} {es : List Expr} {kws : List Keyword} {t tk : TA} {ta : TE} {ks : List Str} {gV : List V → List V → List V}
theorem pe_c (G : Has X.prog X.w X.K X.mg X.base k x sp dvs) (hr : Room k X.A) (hg : Gl X x) (ha : PA X (e :: es) t) (hdb : (x == ("__debug__" : Str)) = false := by decide)
    (he : starEach (e :: es) X.env = (false, eval e X.env) :: starEach es X.env := by rfl) (hpl : (backTo pos (starEach es X.env)).any (·.1) = false := by rfl) : PE X (.Call (.Name x p) (e :: es) [] pos) (tCall sp dvs E0 t) := by
  obtain ⟨f, fd, ps, ds, hm, hk, F, hd, hb⟩ := G.ex
  exact pe_call F hr hg hm hk hb hd pass0 ha hdb he hpl
theorem pe_ck (G : HasK X.prog X.w X.K X.mg X.base k x sp n ks gV) (hr : Room k X.A) (hg : Gl X x) (ha : PA X (e :: es) t) (hkw : PK X kws tk) (hall : (backToKw pos (keywordEach kws X.env)).all (·.1.isSome) = true := by rfl)
    (hks : (backToKw pos (keywordEach kws X.env)).filterMap (·.1) = ks := by rfl) (hdb : (x == ("__debug__" : Str)) = false := by decide) (he : starEach (e :: es) X.env = (false, eval e X.env) :: starEach es X.env := by rfl)
    (hpl : ((backTo pos (starEach (e :: es) X.env)).any (·.1) || (backToKw pos (keywordEach kws X.env)).any (·.1.isNone)) = false := by rfl) : PE X (.Call (.Name x p) (e :: es) kws pos) (tCallN n ks.length sp gV E0 t tk) := by
  obtain ⟨f, fd, ps, g, hm, hk, F, hb⟩ := G.ex
  exact pe_callN F hr hg hm hk hb pass0 ha hkw hall hks hdb he hpl
theorem pe_m {pl : Sem Bool} (G : HasM X.prog X.w X.K X.mg X.base k C m sp) (hr : Room k X.A) (c : Cls X.K C) (he : PE X o ta) (ha : PA X (e :: es) t)
    (hst : starEach (e :: es) X.env = (false, eval e X.env) :: starEach es X.env := by rfl) (hpl : (backTo pos (starEach es X.env)).any (·.1) = false := by rfl)
    (ht : eval (.Call (.Attribute o m apos) (e :: es) [] pos) X.env = (do
      let ov ← eval o X.env
      standAt apos.atName
      let (f, first) ← holding [ov] (getMethod ov m pl)
      callWith pos f first (backTo pos (starEach (e :: es) X.env)) (backToKw pos (keywordEach [] X.env))) := by rfl) : PE X (.Call (.Attribute o m apos) (e :: es) [] pos) (tMeth C m sp [] E0 ta t) := by
  obtain ⟨f, fd, ps, hm, F, hb⟩ := G.ex
  exact pe_meth he c hm F hr hb .nil pass0 ha hst hpl ht
theorem pe_m0 {pl : Sem Bool} (G : HasM X.prog X.w X.K X.mg X.base k C m sp) (hr : Room k X.A) (c : Cls X.K C) (he : PE X o ta)
    (ht : eval (.Call (.Attribute o m apos) [] [] pos) X.env = (do
      let ov ← eval o X.env
      standAt apos.atName
      let (f, first) ← holding [ov] (getMethod ov m pl)
      callWith pos f first (backTo pos (starEach [] X.env)) (backToKw pos (keywordEach [] X.env))) := by rfl) : PE X (.Call (.Attribute o m apos) [] [] pos) (tMeth C m sp [] E0 ta tNil) := by
  obtain ⟨f, fd, ps, hm, F, hb⟩ := G.ex
  exact pe_meth0 he c hm F hr hb .nil pass0 ht
theorem pe_mk (G : HasC X.prog X.w X.K X.mg X.base k x C sp dvs) (hr : Room (k + 1) X.A) (hg : Gl X x) (ha : PA X (e :: es) t) (hdb : (x == ("__debug__" : Str)) = false := by decide)
    (he : starEach (e :: es) X.env = (false, eval e X.env) :: starEach es X.env := by rfl) (hpl : (backTo pos (starEach es X.env)).any (·.1) = false := by rfl) : PE X (.Call (.Name x p) (e :: es) [] pos) (tMake C sp dvs E0 t) := by
  obtain ⟨f, fd, ps, ds, hm, M, F, hd, hb⟩ := G.ex
  exact pe_make M F hr hg hm hb hd pass0 ha hdb he hpl
end

/-! ### numbers -/
section
variable {X : Cx}
def CPowW (i j : Int) : Prop := 0 ≤ j ∧ (Builtin.Int.intBits i : Int) * j ≤ 2 ^ 27
theorem op_powW : OpR X (binaryOp .Pow) (rI CPowW fun i j => .int (i ^ j.toNat)) := opI fun _ _ _ _ _ _ _ hc q => pow_int hc.1 hc.2 q
/-- min(t), max(t) of a tuple of ints -/
def rMinT (K : PySem.W.Frag) : List V → Hp → VK → Prop := fun vs H Q => ∃ (a : Addr) (ns : List Int), vs = [V.ref a] ∧ SqT K H a (ns.map V.int) ∧ 0 < ns.length ∧ ∀ m, m ∈ ns → (∀ y, y ∈ ns → m ≤ y) → Q (.int m) H
def rMaxT (K : PySem.W.Frag) : List V → Hp → VK → Prop := fun vs H Q => ∃ (a : Addr) (ns : List Int), vs = [V.ref a] ∧ SqT K H a (ns.map V.int) ∧ 0 < ns.length ∧ ∀ m, m ∈ ns → (∀ y, y ∈ ns → y ≤ m) → Q (.int m) H
theorem tupW {prog : Program} {w : World} {A : Around} {E : Value → Shared → Prop} {s : Shared} {l : Addr} {xs : Array (Int × Tok)} {Q : Value → Shared → Prop} (hl : IsTup s.heap l (intItems xs))
    (h : ∀ (I : Addr) (h2 : Heap), (h2.IsTupleIter I l 0 ∧ IsTup h2 l (intItems xs)) → (∀ b ∈ [I, l], b < h2.objs.size) → l ≠ I → (∀ b o, s.heap.get? b = some o → b ≠ I ∧ h2.get? b = some o) → Q (.ref I) { s with heap := h2 }) :
    wpAny (model prog w) A (pyIter (.ref l)) Q E s := by
  have hlt : l < s.heap.objs.size := by obtain ⟨o, ho, _⟩ := hl; exact Heap.lt_size ho
  refine iter_tuple hl (h s.heap.objs.size _ ⟨⟨_, Heap.get?_push_size _ rfl, rfl, rfl⟩, hl.push _⟩ (fun b hb => ?_) (Nat.ne_of_lt hlt) fun b o e => ⟨Nat.ne_of_lt (Heap.lt_size e), Heap.get?_push_of_some _ e⟩)
  rw [Heap.size_push]
  rcases List.mem_cons.mp hb with e | hb
  · rw [e]; exact Nat.lt_succ_self _
  · rw [List.mem_singleton.mp hb]; exact Nat.lt_succ_of_lt hlt
theorem cr_minT (hc : X.calm = true) : CallR X (.builtin "min") (rMinT X.K) := by
  intro pins s σ H vs us Q I r h
  obtain ⟨a, ns, rfl, hs, hne, q⟩ := h
  obtain ⟨its, rv, hl, _⟩ := I.tuple hs
  rw [Vals.ref1 r]
  obtain ⟨xs, e⟩ := rv.ints.allInts.items
  have hn : numsOf (intItems xs).toList = ns := by rw [← e]; exact rv.ints.numsOf
  rw [nums_intItems] at hn
  subst hn
  rw [e] at hl
  have hsz : 0 < xs.size := by simpa using hne
  refine call_min_walk (tupW hl fun Iz h2 st hfp hne2 hk => ?_)
  refine ⟨_, _, _, _, _, _, _, rfl, Walks.tuple (A := X.A.in1) (I.ok.hd hc) _ a hne2 (intItems xs), st, hfp, by simpa [intItems] using hsz, CmpOf.ints_lt (numAt xs) (fun _ _ => intItems_at), fun v h' tk hP hk2 => ?_⟩
  have hP2 : (intItems xs)[argBest (fun i j => decide (numAt xs i < numAt xs j)) (xs.size - 1)]? = some v := by simpa [intItems] using hP
  obtain ⟨t, rfl⟩ := intItems_at hP2
  obtain ⟨h3, h4⟩ := argBest_lt (numAt xs) (xs.size - 1)
  refine ⟨.int _, H, I.kept (h' := h') (t' := tk) (fun b o e => hk2 b o (by simpa using (hk b o e).1) (hk b o e).2), ⟨t, rfl⟩, q _ ?_ fun y hy => ?_⟩
  · rw [numAt_eq]; exact PySem.getD_mem (by rw [List.length_map, Array.length_toList]; omega)
  · obtain ⟨j, hj, rfl⟩ := mem_getD hy
    rw [List.length_map, Array.length_toList] at hj
    rw [← numAt_eq]; exact h4 j (by omega)
theorem cr_maxT (hc : X.calm = true) : CallR X (.builtin "max") (rMaxT X.K) := by
  intro pins s σ H vs us Q I r h
  obtain ⟨a, ns, rfl, hs, hne, q⟩ := h
  obtain ⟨its, rv, hl, _⟩ := I.tuple hs
  rw [Vals.ref1 r]
  obtain ⟨xs, e⟩ := rv.ints.allInts.items
  have hn : numsOf (intItems xs).toList = ns := by rw [← e]; exact rv.ints.numsOf
  rw [nums_intItems] at hn
  subst hn
  rw [e] at hl
  have hsz : 0 < xs.size := by simpa using hne
  refine call_max_walk (tupW hl fun Iz h2 st hfp hne2 hk => ?_)
  refine ⟨_, _, _, _, _, _, _, rfl, Walks.tuple (A := X.A.in1) (I.ok.hd hc) _ a hne2 (intItems xs), st, hfp, by simpa [intItems] using hsz, CmpOf.ints_gt (numAt xs) (fun _ _ => intItems_at), fun v h' tk hP hk2 => ?_⟩
  have hP2 : (intItems xs)[argBest (fun i j => decide (numAt xs i > numAt xs j)) (xs.size - 1)]? = some v := by simpa [intItems] using hP
  obtain ⟨t, rfl⟩ := intItems_at hP2
  obtain ⟨h3, h4⟩ := argBest_gt (numAt xs) (xs.size - 1)
  refine ⟨.int _, H, I.kept (h' := h') (t' := tk) (fun b o e => hk2 b o (by simpa using (hk b o e).1) (hk b o e).2), ⟨t, rfl⟩, q _ ?_ fun y hy => ?_⟩
  · rw [numAt_eq]; exact PySem.getD_mem (by rw [List.length_map, Array.length_toList]; omega)
  · obtain ⟨j, hj, rfl⟩ := mem_getD hy
    rw [List.length_map, Array.length_toList] at hj
    rw [← numAt_eq]; exact h4 j (by omega)
end

/-! ### written tables: d.get(k) -/
section
variable {X : Cx}
def rKGet (K : PySem.W.Frag) (w : World) : V → List V → Hp → VK → Prop := fun x vs H Q => ∃ p z v, x = .ref p ∧ vs = [.str z] ∧ (p == sysModules) = false ∧ KDct K w p z v ∧ Q v H
theorem mt_kget : MtR X "dict.get" (rKGet X.K X.w) := by
  intro pins s σ H x vs v us Q I rx rv h
  obtain ⟨p, z, r, rfl, rfl, low, ⟨es, n, u0, hl, hk, e, ru⟩, q⟩ := h
  obtain rfl : v = Value.ref p := rx
  obtain ⟨u, rfl, ry⟩ := Vals.one rv
  obtain ⟨t, rfl⟩ := ry
  have hm := PySem.W.mapOf_K (prog := X.prog) (w := X.w) I.kIn hl hk
  refine call_meetsIn PySem.F.slot_dict_get hm.typeIs PySem.F.entry_dict_get (PySem.F.args_dict_get_2 _ _) (meets_dict_get (strKind X.prog X.w) p (strKind_is X.prog X.w z t) low) ⟨_, hm, ?_⟩
  rw [PySem.W.find_K hl e]
  exact ⟨r, H, I.tok _, ru, q⟩
end

/-! ### {k: v}, k a tuple -/
section
variable {X : Cx} {pos : Pos}
def tDispT1 (tk tv : TE) : TE := fun σ H Q => ∀ p, H p = none → tk σ (upd H p (.dT [])) fun y H1 => tv σ H1 fun v H2 => H2 p = some (.dT []) ∧ ∃ (k : List Key) (b : Addr), y = .ref b ∧ H2 b = some (.tup (k.map kV)) ∧ Q (.ref p) (upd H2 p (.dT [(k, v)]))
theorem pe_dispT1 {ke ve : Expr} {tk tv : TE} (hu : X.A.units + 1 < cLine) (hk : PE X ke tk) (hv : PE X ve tv) : PE X (.Dict [some ke] [ve] pos) (tDispT1 tk tv) := by
  refine ⟨fun pins s σ H Q I q => ?_⟩
  have hn := I.hok.fresh (Nat.le_refl s.heap.objs.size)
  have I1 := I.laid (a := s.heap.objs.size) (o := .dT []) (h' := s.heap.push { cls := .type "dict", data := .dict #[] }) (t' := s.toks) (fun _ _ q => Heap.get?_push_of_some _ q) (Nat.le_refl _) (dt_empty s.heap I.big)
  rw [arm_eval_Dict]
  have hshape : (evalEachOpt [some ke] X.env).zip ((evalEach [ve] X.env).map fun v => do let x ← v; standAt pos; pure x) = [(eval ke X.env, do let x ← eval ve X.env; standAt pos; pure x)].map (fun p => (some p.1, p.2)) := rfl
  rw [hshape, dictDisplay_pairs _ (by simp) (by simp)]
  refine wpAny_bind (wpAny_standAt (wpAny_bind (wpAny_subDictH (knd := tupleKind (mixKind X.prog X.w)) (show X.A.units < cLine from Nat.lt_of_succ_lt hu) (by simp) ?_)))
  unfold evalPairs
  refine wpAny_bind (thn (hk.run pins _ σ _ _ I1 (q _ hn)) fun u s1 ⟨y, H1, I2, r1, q1⟩ => wpAny_bind (wpAny_holding (wpAny_bind (thn (hv.run pins s1 σ H1 _ I2 q1) fun v2 s2 ⟨v, H2, I3, r2, e, k, b, ey, eb, q2⟩ => wpAny_bind (wpAny_standAt (wpAny_pure ?_))))))
  subst ey
  obtain rfl : u = Value.ref b := r1
  refine wpAny_bind (wpAny_holding ?_)
  unfold evalPairs
  refine wpAny_pure (wpAny_pure ?_)
  obtain ⟨z, hd, xs, rel, dd⟩ := dt_of I3.hok e
  cases rel
  refine ⟨[(k, b, v2)], ⟨rfl, rfl, key_of I3.hok eb, trivial⟩, dd, fun h' tk dd' hs => wpAny_pure ⟨.ref s.heap.objs.size, _, ?_, rfl, q2⟩⟩
  obtain ⟨o, es, ep, ho, h2, h3, h4, _, h5⟩ := dd'
  refine d_write I3 (by rw [e]; exact True.intro) hs ⟨o, ho⟩ ⟨by show 1 ≤ sizeLine; rw [sizeLine_eq]; omega, hd, [(k, b, v2)], .cons ⟨rfl, ?_, r2⟩ .nil, o, es, ep, ho, h2, h3, h4, h5⟩
  rw [upd_ne (ne_of eb e (fun z => nomatch z))]
  exact eb
end
end Kw
set_option Elab.async false
set_option linter.all false
set_option maxRecDepth 100000
set_option maxHeartbeats 2000000
/-! Rules of the hand layer that it lacks, the third part: comprehensions of any kind. -/
namespace Kw
open PySem PySem.Spec PyProof.Rows L2

section
variable {X : Cx}
/-- what a clause's turn asks, its element's part left open -/
abbrev TurnOf (prog : Program) (w : World) (A : Around) (tg : Expr) (ifs : List Expr) (it : Value) (ce : Env) (R : Result → Shared → Prop) (El : (Shared → Prop) → (Value → Shared → Prop) → Shared → Prop) (I : Nat → Shared → Prop) : Prop :=
  ∀ n s, I n s → wpAny (model prog w) A (pyNext it) (fun r s1 => match r with
    | none => R (.ok .next) s1
    | some v => wpAny (model prog w) A (letOwnedTupleGo tg it v) (fun _ s2 => wpAny (model prog w) A (assign tg ce v) (fun _ s3 =>
        wpAny (model prog w) A (forIn ifs true fun c r => if r = true then do let ok ← isTrue c ce (eval c ce); pure (ForInStep.yield ok) else pure (ForInStep.yield r)) (fun ok s4 =>
          if ok = true then El (fun s5 => ∃ m, m < n ∧ I m s5) (notedBy (model prog w) A ce fun e s' => R (.error e) s') s4
          else ∃ m, m < n ∧ I m s4) (notedBy (model prog w) A ce fun e s' => R (.error e) s') s3) (notedBy (model prog w) A ce fun e s' => R (.error e) s') s2) (notedBy (model prog w) A ce fun e s' => R (.error e) s') s1) (notedBy (model prog w) A ce fun e s' => R (.error e) s') s
/-- the reading: tE the element's part at the new object D -/
def tAny (k0 : Addr → HO) (wi : TI) (g : TG) (tt : TT) (tE : Addr → L2.St → Hp → (Hp → Prop) → Prop) (vs : List Nat) : TE := fun σ H Q => wi σ H fun J H1 => ∀ D, H1 D = none → ∃ W : Nat → Nat → Hp → Prop, (∃ m, W 0 m (upd H1 D (k0 D))) ∧ ∀ i m H, W i m H →
  (J.stop i H ∧ Q (.ref D) H) ∨ (J.go i H ∧ ∃ Nx : Hp → Prop, (∀ H', Nx H' → ∃ m', m' < m ∧ W (i + 1) m' H') ∧ ∀ x H', J.yld i H x H' → g x (wipe σ vs) H' fun σ2 H2 => wipe σ2 vs = wipe σ vs ∧ tt σ2 H2 fun b H3 =>
    if b = true then tE D σ2 H3 Nx else Nx H3)
theorem blk_any {pins : List (Addr × Obj)} {s : Shared} {σ : L2.St} {H : Hp} {Q : VK} {ex tg iter : Expr} {ifs : List Expr} {scope : Scope} {own : List (Str × Nat)} {pos' : Pos} {wi : TI} {g : TG} {tt : TT} {tE : Addr → L2.St → Hp → (Hp → Prop) → Prop} {newAcc : Sem Value} {o0 : Obj} {k0 : Addr → HO}
    {El : Env → Addr → (Shared → Prop) → (Value → Shared → Prop) → Shared → Prop} {use : Option (Value → Sem Unit)} {Qf : Value → Shared → Prop}
    (hcl : clausesOf ex = [⟨tg, iter, ifs, 0⟩])
    (hnew : ∀ (s2 : Shared) (R : Value → Shared → Prop), R (.ref s2.heap.objs.size) { s2 with heap := s2.heap.push o0 } → wpAny (model X.prog X.w) X.A newAcc R X.xe s2)
    (hobj : ∀ (s2 : Shared) (H2 : Hp), Inv X pins σ H2 s2 → ObjOk X.prog X.w (upd H2 s2.heap.objs.size (k0 s2.heap.objs.size)) (s2.heap.push o0) s2.heap.objs.size (k0 s2.heap.objs.size))
    (hloop : ∀ (ce : Env) (D : Addr) (it : Value) (R : Result → Shared → Prop) (I : Nat → Shared → Prop), TurnOf X.prog X.w X.A tg ifs it ce R (El ce D) I → ∀ n s, I n s → codeAny (model X.prog X.w) X.A (.compLoop ex 0 it (.ref D) ce) R s)
    (hstart : ∀ (ce : Env) (D : Addr) (it : Value) (R : Result → Shared → Prop) (s : Shared), codeAny (model X.prog X.w) X.A (.compLoop ex 0 it (.ref D) ce) R s →
      wpAny (model X.prog X.w) X.A (pyIter it) (fun it' s' => codeAny (model X.prog X.w) X.A (.compLoop ex 0 it' (.ref D) ce) R s') (notedBy (model X.prog X.w) X.A ce fun x s' => R (.error x) s') s → codeAny (model X.prog X.w) X.A (.compStart ex 0 it (.ref D) ce) R s)
    (hel : ∀ (s3 : Shared) (H3 : Hp) (C : Addr) (cl : List (Str × Addr)) (fp : List Addr) (D : Addr) (pl : List (Addr × Obj)) (σ8 : L2.St) (H9 : Hp) (s9 : Shared) (Nx : Hp → Prop) (F : Shared → Prop) (E : Value → Shared → Prop), Inv (X.blk s3 H3 scope (compEnvC scope cl C X.env) fp) pl σ8 H9 s9 → tE D σ8 H9 Nx →
      (∀ s' H', Inv (X.blk s3 H3 scope (compEnvC scope cl C X.env) fp) pl σ8 H' s' → Nx H' → F s') → El (compEnvC scope cl C X.env) D F E s9)
    (hc : X.calm = true) (hN : X.N.Nodup) (I : Inv X pins σ H s) (hi : PI X tg iter wi) (ok : BlkOk X.N X.env.scope scope own)
    (hg : ∀ (s : Shared) (H : Hp) (C : Addr) (cl : List (Str × Addr)) (fp : List Addr), PG (X.blk s H scope (compEnvC scope cl C X.env) fp) tg g) (ht : ∀ (s : Shared) (H : Hp) (C : Addr) (cl : List (Str × Addr)) (fp : List Addr), PTs (X.blk s H scope (compEnvC scope cl C X.env) fp) ifs tt)
    (hs : ∀ x, foldedSetIterable iter X.env x = pure x) (h : tAny k0 wi g tt tE (own.map (·.2)) σ H Q)
    (hend : ∀ D C s' m H', Inv X pins σ H' s' → Q (.ref D) H' → s'.heap.Ns C m → FpOk X pins H' C → compPost (model X.prog X.w) X.A X.xe use Qf (.ref D) C (.ok .next) s') :
    wpAny (model X.prog X.w) X.A (comprehension ex scope X.env pos' newAcc false (eval iter X.env) use) Qf X.xe s := by
  have hfree : ∀ y ∈ scope.names, y.2 = .free → ∃ c, X.env.cells.lookup y.1 = some c := fun y hy e => (ok.free y hy e).elim (fun k => I.ok.has _ (.inl k)) fun k => I.ok.has _ (.inr k)
  refine wpAny_comprehension_free (use := use) hcl hs (closure_ok hfree) ok.kind (fun y hy e => (ok.uniq y hy).trans (congrArg some e)) (thn (hi.run pins s σ H _ I h) fun xv s1 hx => thn hx fun itv s2 h2 => ?_)
  obtain ⟨it, fp, tn, J, H2, e, I2, T, st2, f2, q⟩ := h2
  subst e
  refine hnew s2 _ (newEnv_comp ?_)
  have hobj2 := hobj s2 H2 I2
  generalize hD : s2.heap.objs.size = D at hobj2 ⊢
  obtain ⟨W, ⟨m0, w0⟩, turn⟩ := q D (I2.hok.fresh (Nat.le_of_eq hD))
  generalize hs3 : ({ s2 with heap := s2.heap.push o0 } : Shared) = s3
  have e3 : s3.heap = s2.heap.push o0 := by rw [← hs3]
  have I3 : Inv X pins σ (upd H2 D (k0 D)) s3 := by
    rw [← hs3]
    exact I2.laid (t' := s2.toks) (fun b o e => Heap.get?_push_of_some _ e) (Nat.le_of_eq hD) hobj2
  have sz : ∀ b ∈ fp, b < s2.heap.objs.size := fun b hb => let ⟨o, e, _⟩ := T.obj _ _ st2 b hb; Heap.lt_size e
  have f3 : ∀ b ∈ fp, FpOk X pins (upd H2 D (k0 D)) b ∧ b < s3.heap.objs.size := fun b hb => by
    have lt := sz b hb
    refine ⟨⟨?_, (f2 b hb).2⟩, by rw [e3, Heap.size_push]; exact Nat.lt_succ_of_lt lt⟩
    rw [upd_ne (by rw [← hD]; exact Nat.ne_of_lt lt)]
    exact (f2 b hb).1
  have st3 : tn 0 s3.heap := T.keep _ _ _ st2 fun b _ o e => by rw [e3]; exact Heap.get?_push_of_some _ e
  have I4 := block_start I3 ok hN f3
  have pg := hg s3 (upd H2 D (k0 D)) s3.heap.objs.size (cellsFrom (s3.heap.objs.size + 1) scope.names (cloFrom X.env.cells scope.names [])) fp
  have pt := ht s3 (upd H2 D (k0 D)) s3.heap.objs.size (cellsFrom (s3.heap.objs.size + 1) scope.names (cloFrom X.env.cells scope.names [])) fp
  have pel := hel s3 (upd H2 D (k0 D)) s3.heap.objs.size (cellsFrom (s3.heap.objs.size + 1) scope.names (cloFrom X.env.cells scope.names [])) fp D
  show codeAny _ _ (.compStart ex 0 (.ref it) (.ref D) (compEnvC scope (cellsFrom (s3.heap.objs.size + 1) scope.names (cloFrom X.env.cells scope.names [])) s3.heap.objs.size X.env)) (compPost (model X.prog X.w) X.A X.xe use Qf (.ref D) s3.heap.objs.size) { s3 with heap := pushCells (s3.heap.push { cls := .type "dict", data := .dict #[] }) scope.names }
  have nfp : ∀ b ∈ fp, (upd H2 D (k0 D)) b = none := fun b hb => (f3 b hb).1.1
  generalize hce : compEnvC scope (cellsFrom (s3.heap.objs.size + 1) scope.names (cloFrom X.env.cells scope.names [])) s3.heap.objs.size X.env = ce at I4 pg pt pel ⊢
  have cL : ce.locals = s3.heap.objs.size := by subst hce; rfl
  generalize hH3 : upd H2 D (k0 D) = H3 at I3 I4 pg pt pel w0 nfp f3
  generalize hs4 : ({ s3 with heap := pushCells (s3.heap.push { cls := .type "dict", data := .dict #[] }) scope.names } : Shared) = s4 at I4 ⊢
  have st4 : tn 0 s4.heap := T.keep _ _ _ st3 fun b _ o e => by rw [← hs4]; exact pushCells_keeps _ _ _ _ (Heap.get?_push_of_some _ e)
  have stat : ∀ {σ' : L2.St} {H' : Hp} {s' : Shared}, Inv (X.blk s3 H3 scope ce fp) [] σ' H' s' → (∀ b ∈ fp, H' b = none) → ∀ b ∈ fp, FpOk (X.blk s3 H3 scope ce fp) [] H' b := fun {σ' H' s'} I' hn b hb =>
    ⟨hn b hb, (I'.ok.exf b hb).1, I'.ok.exfs b hb, .inl hb, fun x c e => (I'.ok.exf b hb).2 x c e, fun p hp => absurd (show p ∈ ([] : List (Addr × Obj)) ++ [] from hp) (by simp)⟩
  have loop : codeAny (model X.prog X.w) X.A (.compLoop ex 0 (.ref it) (.ref D) ce) (compPost (model X.prog X.w) X.A X.xe use Qf (.ref D) s3.heap.objs.size) s4 := by
    refine hloop ce D (.ref it) _ (fun n s' => ∃ i H', Inv (X.blk s3 H3 scope ce fp) [] (wipe σ (own.map (·.2))) H' s' ∧ tn i s'.heap ∧ (∀ b ∈ fp, H' b = none) ∧ W i n H') ?_ m0 s4 ⟨0, H3, I4, st4, nfp, w0⟩
    rintro n s5 ⟨i, H5, I5, st5, n5, w5⟩
    rcases turn i n H5 w5 with ⟨stop, qq⟩ | ⟨go, Nx, hNx, step⟩
    · refine thnF (T.done (X.blk s3 H3 scope ce fp) rfl rfl rfl hc i [] s5 _ H5 (fun _ _ => False) I5 (stat I5 n5) st5 stop) fun r s6 ⟨hr, I6⟩ => ?_
      subst hr
      have I7 : Inv X pins σ H5 s6 := I3.call' (ch := fp) I6.os I6.base I6.hok I6.bare fun b hb => ⟨(f3 b hb).1.2.2.2.1, (f3 b hb).1.2.1, (f3 b hb).1.2.2.2.2.1, (f3 b hb).1.2.2.2.2.2⟩
      have nC : H5 s3.heap.objs.size = none := cL ▸ (show H5 ce.locals = none from I6.free)
      obtain ⟨m, hn, _⟩ := I6.loc
      have hn2 : s6.heap.Ns s3.heap.objs.size m := cL ▸ (show s6.heap.Ns ce.locals m from hn)
      exact hend D s3.heap.objs.size s6 m H5 I7 qq hn2 (I3.fpOk (Nat.le_refl _) nC)
    · refine thnF (T.item (X.blk s3 H3 scope ce fp) rfl rfl rfl hc i [] s5 _ H5 (fun _ _ => False) I5 (stat I5 n5) st5 go) fun r s6 ⟨u, hr, h6⟩ => ?_
      subst hr
      refine thnF h6 fun _ s7 ⟨x, H7, I7, r7, y7, st7, n7⟩ => ?_
      refine thnF (pg.run _ s7 _ H7 x u _ (I7.pinned (stat I7 n7) (T.obj _ _ st7)) r7 (step x H7 y7)) fun _ s8 ⟨σ8, H8, I8, hw8, q8⟩ => ?_
      refine thnF (pt.run _ s8 σ8 H8 _ I8 q8) fun b s9 ⟨H9, I9, q9⟩ => ?_
      have fin : ∀ {s' : Shared} {H' : Hp}, Inv (X.blk s3 H3 scope ce fp) ([] ++ pinsAt fp s7.heap) σ8 H' s' → Nx H' → ∃ m, m < n ∧ ∃ i H', Inv (X.blk s3 H3 scope ce fp) [] (wipe σ (own.map (·.2))) H' s' ∧ tn i s'.heap ∧ (∀ b ∈ fp, H' b = none) ∧ W i m H' := fun {s' H'} I' nx => by
        obtain ⟨m', hm, w'⟩ := hNx H' nx
        have pin' : ∀ b ∈ fp, ∀ o, s7.heap.get? b = some o → s'.heap.get? b = some o ∧ H' b = none := fun b hb o e =>
          let z := I'.pin (b, o) (List.mem_append_right _ (List.mem_append_right _ (mem_pinsAt hb e)))
          ⟨z.1, z.2.1⟩
        refine ⟨m', hm, i + 1, H', (I'.unpinned (pins := [])).weak (by rw [← hw8, wipe_length]) (fun j v e => ?_), T.keep _ _ _ st7 fun b hb o e => (pin' b hb o e).1, fun b hb => ?_, w'⟩
        · rw [← hw8] at e
          exact (wipe_some e).1
        · obtain ⟨o, e, _⟩ := T.obj _ _ st7 b hb
          exact (pin' b hb o e).2
      cases b with
      | false =>
        simp only [Bool.false_eq_true, if_false] at q9 ⊢
        exact fin I9 q9
      | true =>
        simp only [if_true] at q9 ⊢
        exact pel _ σ8 H9 s9 Nx _ _ I9 q9 fun s' H' I' nx => fin I' nx
  exact hstart ce D (.ref it) _ s4 loop (T.self X.A 0 _ _ _ st4 loop)

/-! ### {k: v for ..}, k a tuple -/
theorem dt_dictSet {Y : Cx} {pins : List (Addr × Obj)} {σ : L2.St} {H : Hp} {s : Shared} {E : Value → Shared → Prop} {D b : Addr} {kvs : List (List Key × V)} {k : List Key} {v : V} {r : Value} {Q : Unit → Shared → Prop} (hu : Y.A.units + 1 < cLine) (I : Inv Y pins σ H s) (hD : H D = some (.dT kvs)) (hb : H b = some (.tup (k.map kV))) (hz : kvs.length < sizeLine)
    (rv : RelV v r) (h : ∀ s', Inv Y pins σ (upd H D (.dT (putK kvs k v))) s' → Q () s') : wpAny (model Y.prog Y.w) Y.A (dictSet D (.ref b) r) Q E s := by
  obtain ⟨z, hd, xs, rel, dd⟩ := dt_of I.hok hD
  have hzx : xs.length ≤ sizeLine := by rw [← Paired.length rel]; exact z
  have hl : (putK kvs k v).length ≤ sizeLine := by have := length_putK kvs k v; omega
  refine wpAny_dictSet_heap (hsz := hzx) (show (tupleKind (mixKind Y.prog Y.w)).room Y.A from (show Y.A.units < cLine from Nat.lt_of_succ_lt hu)) (key_of I.hok hb) dd fun h' dd' hs => h _ ?_
  obtain ⟨q, es, ep, hq, h2, h3, h4, _, h5⟩ := dd'
  refine d_write I (by rw [hD]; exact True.intro) hs ⟨q, hq⟩ ⟨hl, hd, _, (rel.put k hb rv).keeps fun c ys ec => ?_, q, es, ep, hq, h2, h3, h4, h5⟩
  rw [upd_ne (ne_of ec hD (fun z => nomatch z))]
  exact ec
def eDcT (tk tv : TE) (D : Addr) (σ : L2.St) (H : Hp) (Nx : Hp → Prop) : Prop := tk σ H fun y H4 => tv σ H4 fun z H5 => ∃ (kvs : List (List Key × V)) (k : List Key) (b : Addr), y = .ref b ∧ H5 b = some (.tup (k.map kV)) ∧ H5 D = some (.dT kvs) ∧ kvs.length < sizeLine ∧ Nx (upd H5 D (.dT (putK kvs k z)))
abbrev tDcT (wi : TI) (g : TG) (tt : TT) (tk tv : TE) (vs : List Nat) : TE := tAny (fun _ => .dT []) wi g tt (eDcT tk tv) vs
theorem pe_dcT {kx vx tg iter : Expr} {ifs : List Expr} {scope : Scope} {own : List (Str × Nat)} {pos : Pos} {wi : TI} {g : TG} {tt : TT} {tk tv : TE} (hu : X.A.units + 1 < cLine) (hc : X.calm = true) (hN : X.N.Nodup) (hi : PI X tg iter wi) (ok : BlkOk X.N X.env.scope scope own)
    (hg : ∀ (s : Shared) (H : Hp) (C : Addr) (cl : List (Str × Addr)) (fp : List Addr), PG (X.blk s H scope (compEnvC scope cl C X.env) fp) tg g) (ht : ∀ (s : Shared) (H : Hp) (C : Addr) (cl : List (Str × Addr)) (fp : List Addr), PTs (X.blk s H scope (compEnvC scope cl C X.env) fp) ifs tt)
    (hk : ∀ (s : Shared) (H : Hp) (C : Addr) (cl : List (Str × Addr)) (fp : List Addr), PE (X.blk s H scope (compEnvC scope cl C X.env) fp) kx tk)
    (hv : ∀ (s : Shared) (H : Hp) (C : Addr) (cl : List (Str × Addr)) (fp : List Addr), PE (X.blk s H scope (compEnvC scope cl C X.env) fp) vx tv) (hs : ∀ x, foldedSetIterable iter X.env x = pure x := by intro _; rfl) :
    PE X (.DictComp kx vx [⟨tg, iter, ifs, 0⟩] scope pos) (tDcT wi g tt tk tv (own.map (·.2))) := by
  refine ⟨fun pins s σ H Q I h => ?_⟩
  rw [arm_eval_DictComp]
  refine blk_any (o0 := { cls := .type "dict", data := .dict #[] }) (El := fun ce D F E s => wpAny (model X.prog X.w) X.A (eval kx ce) (fun kv s4 => wpAny (model X.prog X.w) X.A (eval vx ce) (fun vv s5 => wpAny (model X.prog X.w) X.A (dictSet D kv vv) (fun _ s6 => F s6) E s5) E s4) E s)
    rfl (fun s2 R hR => wpAny_newObj_type hR) (fun s2 H2 I2 => dt_empty s2.heap I2.big) (fun ce D it R In tn n s hIn => compLoop_anyD In tn n hIn) (fun ce D it R s h0 h1 => codeAny_compStart_dict h0 h1) (fun s3 H3 C cl fp D pl σ8 H9 s9 Nx F E I9 q9 hF => ?_) hc hN I hi ok hg ht hs h fun D C s' m H' I' q hn f => ⟨m, hn, fun h'' sb => ?_⟩
  · refine thnF ((hk s3 H3 C cl fp).run pl s9 σ8 H9 _ I9 q9) fun z s10 ⟨yk, H10, I10, r10, q10⟩ => ?_
    refine thnF ((hv s3 H3 C cl fp).run pl s10 σ8 H10 _ I10 q10) fun z2 s11 ⟨yv, H11, I11, r11, kvs, k, b, ek, hb, hD11, hz11, nx⟩ => ?_
    subst ek
    obtain rfl : z = Value.ref b := r10
    exact dt_dictSet (Y := X.blk s3 H3 scope (compEnvC scope cl C X.env) fp) hu I11 hD11 hb hz11 r11 fun s12 I12 => hF s12 _ I12 nx
  · obtain ⟨f0, f1, f2, f3, f4, f5⟩ := f
    exact ⟨.ref D, H', I'.turned (t' := s'.toks) (fun b o hb e => (sb.2 b hb).trans e) f0 f1 f3 f4 f5, rfl, q⟩

/-! ### {e for ..}, e an int -/
def eScI (w : World) (te : TE) (D : Addr) (σ : L2.St) (H : Hp) (Nx : Hp → Prop) : Prop := te σ H fun y H4 => ∃ (k : Int) (S : Int → Bool) (n : Nat), y = .int k ∧ H4 D = some (SetO w D S n) ∧ n + 1 < scanBound ∧ Nx (upd H4 D (SetO w D (fun j => S j || decide (j = k)) (if S k = true then n else n + 1)))
abbrev tScI (w : World) (wi : TI) (g : TG) (tt : TT) (te : TE) (vs : List Nat) : TE := tAny (fun D => SetO w D (fun _ => false) 0) wi g tt (eScI w te) vs
end
end Kw
set_option Elab.async false
set_option linter.all false
set_option maxRecDepth 100000
set_option maxHeartbeats 2000000
/-! Rules of the hand layer that it lacks, the fourth part: set comprehensions of ints, sorted of anything. -/
namespace Kw
open PySem PySem.Spec PyProof.Rows L2

section
variable {X : Cx}
theorem pe_scI {elt tg iter : Expr} {ifs : List Expr} {scope : Scope} {own : List (Str × Nat)} {pos : Pos} {wi : TI} {g : TG} {tt : TT} {te : TE} (hc : X.calm = true) (hN : X.N.Nodup) (hi : PI X tg iter wi) (ok : BlkOk X.N X.env.scope scope own)
    (hg : ∀ (s : Shared) (H : Hp) (C : Addr) (cl : List (Str × Addr)) (fp : List Addr), PG (X.blk s H scope (compEnvC scope cl C X.env) fp) tg g) (ht : ∀ (s : Shared) (H : Hp) (C : Addr) (cl : List (Str × Addr)) (fp : List Addr), PTs (X.blk s H scope (compEnvC scope cl C X.env) fp) ifs tt)
    (he : ∀ (s : Shared) (H : Hp) (C : Addr) (cl : List (Str × Addr)) (fp : List Addr), PE (X.blk s H scope (compEnvC scope cl C X.env) fp) elt te) (hs : ∀ x, foldedSetIterable iter X.env x = pure x := by intro _; rfl) :
    PE X (.SetComp elt [⟨tg, iter, ifs, 0⟩] scope pos) (tScI X.w wi g tt te (own.map (·.2))) := by
  refine ⟨fun pins s σ H Q I h => ?_⟩
  rw [PpSet.eval_SetComp]
  refine blk_any (o0 := { cls := .type "set", dict := none, data := .set #[] 0 (.fresh 0 0 (!X.w.params.followText "set-order")) }) (El := fun ce D F E s => wpAny (model X.prog X.w) X.A (eval elt ce) (fun x s4 => wpAny (model X.prog X.w) X.A (call (.builtin "set.add") [.ref D, x]) (fun _ s5 => F s5) E s4) E s)
    rfl (fun s2 R hR => PpSet.newSet_ok hR) (fun s2 H2 I2 => ?_) (fun ce D it R In tn n s hIn => PpSet.compLoopS_any In tn n hIn) (fun ce D it R s h0 h1 => PpSet.codeAny_compStart_set h0 h1) (fun s3 H3 C cl fp D pl σ8 H9 s9 Nx F E I9 q9 hF => ?_) hc hN I hi ok hg ht hs h fun D C s' m H' I' q hn f => ⟨m, hn, fun h'' sb => ?_⟩
  · exact setO_new (setR_fresh X.w)
  · refine thnF ((he s3 H3 C cl fp).run pl s9 σ8 H9 _ I9 q9) fun z s10 ⟨yk, H10, I10, r10, k, S, n, ek, hD, room, nx⟩ => ?_
    subst ek
    obtain ⟨tk, rfl⟩ := r10
    have R := setO_get I10 hD
    refine setR_add R room fun h' sb new => ?_
    have hx : ∃ u, h'.get? D = some u := let ⟨o, _, _, _, ho, _⟩ := new; ⟨o, ho⟩
    exact hF _ _ (I10.write (e := D) (t' := s10.toks + 1) (by rw [hD]; trivial) (.inl rfl) (fun b u hb hu => (sb.2 b hb).trans hu) hx (setO_new new)) nx
  · obtain ⟨f0, f1, f2, f3, f4, f5⟩ := f
    exact ⟨.ref D, H', I'.turned (t' := s'.toks) (fun b o hb e => (sb.2 b hb).trans e) f0 f1 f3 f4 f5, rfl, q⟩
end

/-! ### sorted of anything that is collected -/
section
variable {prog : Program} {w : World} {A : Around} {E : Value → Shared → Prop} {s : Shared}
theorem sorted_coll {x : Value} {Q : Value → Shared → Prop} (hcol : wpAny (model prog w) A.in1 (collect x) (fun vs s1 => ∃ ltv : Value → Value → Bool, SrtO.Swo ltv ∧ vs.length ≤ sizeLine ∧
      (2 ≤ vs.length → ∀ (h1 : Heap) (a : Addr), h1.get? a = some (seqObj "list" vs.toArray 0) → (∀ b o, s1.heap.get? b = some o → b ≠ a ∧ h1.get? b = some o) → SrtO.SortableO prog w A.in1.in1 { s1 with heap := h1 } a vs ltv) ∧
      ∀ out : List Value, SrtO.Srtd ltv out → SrtO.Stb ltv out vs → ∀ (h' : Heap) (c : Nat), (∀ b o, s1.heap.get? b = some o → h'.get? b = some o) → h'.get? s1.heap.objs.size = some (seqObj "list" out.toArray c) → Q (.ref s1.heap.objs.size) { s1 with heap := h' }) E s) :
    wpAny (model prog w) A (call (.builtin "sorted") [x]) Q E s := by
  refine Calls.call_function_entry kind_sorted plain_sorted entry_sorted (args_sorted1 _) ?_
  unfold Builtin.«sorted»
  refine wpAny_bind (m := checkCount "sorted" 1 1 _) (wpAny_pure ?_)
  refine wpAny_bind (wpAny_mono hcol (fun vs s1 h => ?_) fun _ _ z => z)
  obtain ⟨ltv, O, hz, hS, hE⟩ := h
  refine wpAny_bind (wpAny_newList ?_ hz)
  have hoL : (s1.heap.push (seqObj "list" vs.toArray 0)).get? s1.heap.objs.size = some (seqObj "list" vs.toArray 0) := Heap.get?_push_size _ rfl
  refine wpAny_bind (wpAny_holding (wpAny_call_entry slot_list_sort ⟨_, hoL, rfl⟩ entry_list_sort
    (SrtO.list_sort_ord O hoL hz (fun h2 => hS h2 _ _ hoL fun b o e => ⟨Nat.ne_of_lt (Heap.lt_size e), Heap.get?_push_of_some _ e⟩) fun out h1 h2 => ⟨_, rfl, ?_⟩) (args_list_sort _)))
  obtain ⟨c, hc⟩ := sortedHeap_at (vs := vs) (out := out.toArray) hoL
  refine wpAny_pure ⟨_, rfl, hE out h1 h2 _ c (fun b u e => ?_) hc⟩
  have hlt := Heap.lt_size e
  rw [sortedHeap_old (Nat.ne_of_lt hlt) (by rw [size_push']; exact Nat.lt_succ_of_lt hlt)]
  exact Heap.get?_push_of_some _ e
end
section
variable {X : Cx}
theorem inv_eta {pins : List (Addr × Obj)} {σ : L2.St} {H : Hp} {s s' : Shared} (ho : s'.os = s.os) (J : Inv X pins σ H { s with heap := s'.heap, gens := s'.gens, drawn := s'.drawn, toks := s'.toks }) : Inv X pins σ H s' := by
  cases s'
  cases s
  cases ho
  exact J
/-- sorted(a set of ints) -/
def rSortedSetI (w : World) : List V → Hp → VK → Prop := fun vs H Q => ∃ (a : Addr) (S : Int → Bool) (n : Nat), vs = [V.ref a] ∧ H a = some (SetO w a S n) ∧
  ∀ (ns : List Int) (p : Addr), ns.Pairwise (· < ·) → (∀ k : Int, k ∈ ns ↔ S k = true) → ns.length = n → H p = none → Q (.ref p) (upd H p (.lst (ns.map V.int)))
theorem cr_sortedSetI (hc : X.calm = true) : CallR X (.builtin "sorted") (rSortedSetI X.w) := by
  intro pins s σ H vs us Q I r h
  obtain ⟨a, S, n, rfl, ha, q⟩ := h
  obtain ⟨o, es, ep, t, ho, hex, hd, g, nd, hm, hb, hf, hn, hr, hl⟩ := setO_get I ha
  rw [Vals.ref1 r]
  refine sorted_coll (collect_set (A := X.A.in1) (I.ok.hd hc) ⟨o, ho, hex.1, hd⟩ hf hb hr hl fun s1 vs k1 hz g1 o1 pm => ?_)
  have hvl : vs.length = n := by rw [pm.length_eq, List.length_map, Array.length_toList]; exact hn
  have hnz : n ≤ sizeLine := by
    rw [sizeLine_eq]
    have : scanBound ≤ 16777216 := by decide
    omega
  have hI : IntsAre vs (vs.map Builtin.Re.reRawOf) := ints_of vs fun v hv => by
    obtain ⟨e, he, q⟩ := List.mem_map.mp (pm.mem_iff.mp hv)
    obtain ⟨k, tk, h1, _⟩ := g e he
    exact ⟨k, tk, by rw [← q]; exact h1⟩
  have pk : (vs.map Builtin.Re.reRawOf).Perm (es.toList.map keyOf) := by
    have q := pm.map Builtin.Re.reRawOf
    rw [List.map_map] at q
    exact q
  refine ⟨SrtO.ltIv, SrtO.swo_int, by rw [hvl]; exact hnz, fun h2 h1 a' _ _ => SrtO.ints_sortable hI h2, fun out h1 h2 h' c hk hc2 => ?_⟩
  obtain ⟨q1, q2, q3⟩ := SrtO.ints_out hI h1 h2
  have pn : (out.map SrtO.iv).Perm (es.toList.map keyOf) := q2.trans pk
  have ln : (out.map SrtO.iv).length = n := by rw [pn.length_eq, List.length_map, Array.length_toList]; exact hn
  have hp : s.heap.objs.size ≤ s1.heap.objs.size := hz
  refine ⟨.ref s1.heap.objs.size, upd H s1.heap.objs.size (.lst ((out.map SrtO.iv).map V.int)), ?_, rfl, q _ _ (lt_of_le_nodup _ q3 (pn.nodup_iff.mpr nd)) (fun k => by rw [pn.mem_iff, ← hm k]) ln (I.hok.fresh hp)⟩
  have k2 : ∀ b o, s.heap.get? b = some o → h'.get? b = some o := fun b o e => hk b o (k1 b o e)
  refine inv_eta (s := s) (s' := { s1 with heap := h' }) o1 ?_
  exact I.call (ch := []) (Un.laid k2 hp (I.hok.fresh hp)) (I.hok.laid k2 hp ⟨by rw [List.length_map, ln]; exact hnz, out, c, vals_of_ints q1, hc2⟩) (by rw [show ({ s1 with heap := h' } : Shared).gens = s1.gens from rfl, g1]; exact I.bare) (fun _ z => nomatch z)

/-! ### sorted(a dict), its keys pairs of ints -/
def kPt (p : Int × Int) : List Key := [Sum.inl p.1, Sum.inl p.2]
/-- the pair that stands at a value -/
def ptOf (H : Hp) (v : V) : Int × Int := match v with
  | .ref b => (match H b with
    | some (.tup [.int i, .int j]) => (i, j)
    | _ => (0, 0))
  | _ => (0, 0)
theorem ptOf_at {H : Hp} {b : Addr} {p : Int × Int} (h : H b = some (.tup [.int p.1, .int p.2])) : ptOf H (.ref b) = p := by
  show (match H b with
    | some (.tup [.int i, .int j]) => (i, j)
    | _ => (0, 0)) = p
  rw [h]
theorem keys_pts {H : Hp} : ∀ {kvs : List (List Key × V)} {xs : List (List Key × Addr × Value)} {ps : List (Int × Int)}, KT H kvs xs → kvs.map (·.1) = ps.map kPt → Paired (fun (x : List Key × Addr × Value) (p : Int × Int) => H x.2.1 = some (.tup [.int p.1, .int p.2])) xs ps
  | _, _, [], .nil, _ => .nil
  | _, _, _ :: _, .nil, e => by cases e
  | _, _, [], .cons _ _, e => by cases e
  | _, _, p :: ps, .cons hq t, e => by
    injection e with e1 e2
    refine .cons ?_ (keys_pts t e2)
    have h1 := hq.2.1
    dsimp only at e1
    rw [e1] at h1
    exact h1
theorem paired_mem {α β : Type} {F : α → β → Prop} : ∀ {xs : List α} {ys : List β}, Paired F xs ys → ∀ x ∈ xs, ∃ y, F x y
  | _, _, .nil, _, h => nomatch h
  | _, _, .cons r t, x, h => by
    rcases List.mem_cons.mp h with e | h
    · exact ⟨_, e ▸ r⟩
    · exact paired_mem t x h
theorem pt_map {H : Hp} : ∀ {xs : List (List Key × Addr × Value)} {ps : List (Int × Int)}, Paired (fun (x : List Key × Addr × Value) (p : Int × Int) => H x.2.1 = some (.tup [.int p.1, .int p.2])) xs ps → (xs.map fun x => ptOf H (.ref x.2.1)) = ps
  | _, _, .nil => rfl
  | _, _, .cons r t => by rw [List.map_cons, ptOf_at r, pt_map t]
def adrOf : Value → Addr
  | .ref a => a
  | _ => 0
theorem vals_adr : ∀ l : List Value, (∀ v ∈ l, ∃ b, v = Value.ref b) → Vals ((l.map adrOf).map V.ref) l
  | [], _ => .nil
  | v :: l, h => by
    obtain ⟨b, rfl⟩ := h v (List.mem_cons_self ..)
    exact .cons rfl (vals_adr l fun y hy => h y (List.mem_cons_of_mem _ hy))
theorem paired_map {α β γ : Type} {F : β → γ → Prop} (f : α → β) (g : α → γ) : ∀ l : List α, (∀ x ∈ l, F (f x) (g x)) → Paired F (l.map f) (l.map g)
  | [], _ => .nil
  | x :: l, h => .cons (h x (List.mem_cons_self ..)) (paired_map f g l fun y hy => h y (List.mem_cons_of_mem _ hy))
def LeP (p q : Int × Int) : Prop := p.1 < q.1 ∨ (p.1 = q.1 ∧ p.2 ≤ q.2)
def rSortedDT : List V → Hp → VK → Prop := fun vs H Q => ∃ (d : Addr) (kvs : List (List Key × V)) (ps : List (Int × Int)), vs = [V.ref d] ∧ H d = some (.dT kvs) ∧ kvs.map (·.1) = ps.map kPt ∧
  ∀ (qs : List (Int × Int)) (bs : List Addr) (l : Addr), qs.Perm ps → qs.Pairwise LeP → Paired (fun b q => H b = some (.tup [.int q.1, .int q.2])) bs qs → H l = none → Q (.ref l) (upd H l (.lst (bs.map V.ref)))
theorem cr_sortedDT (hc : X.calm = true) : CallR X (.builtin "sorted") rSortedDT := by
  intro pins s σ H vs us Q I r h
  obtain ⟨d, kvs, ps, rfl, hd, hps, q⟩ := h
  rw [Vals.ref1 r]
  obtain ⟨z, hs, ks, pr, o, es, ep, ho, hx, hdt, he, hn⟩ := (show ObjOk X.prog X.w H s.heap d (.dT kvs) from I.hok d _ hd)
  have l1 : es.size = ks.length := size_of_entries he
  have l2 : kvs.length = ks.length := Paired.length pr
  refine sorted_coll (PySem.W.kdu_collect (A := X.A.in1) (kdl_raw hs hx hdt) (I.ok.hd hc) ho (by omega) fun h' tk acc hk it => ?_)
  have ea : acc.toList = ks.map fun x => Value.ref x.2.1 := by
    apply List.ext_getElem?
    intro j
    have hl : acc.toList.length = ks.length := by rw [Array.length_toList, it.1]; exact l1
    rw [List.getElem?_map]
    cases hj : acc.toList[j]? with
    | none =>
      have h1 := List.getElem?_eq_none_iff.mp hj
      rw [List.getElem?_eq_none (by omega)]
      rfl
    | some v =>
      obtain ⟨en, hen, hv⟩ := it.2 j v (by rw [← Array.getElem?_toList]; exact hj)
      have qe := entry_at he j
      rw [hen] at qe
      cases hb : ks[j]? with
      | none => rw [hb] at qe; cases qe
      | some b =>
        rw [hb] at qe
        have e2 : en = entryOfKey (tupleKind (mixKind X.prog X.w)) b := Option.some.inj qe
        rw [hv, e2]
        rfl
  rw [ea]
  have hpt := keys_pts pr hps
  have hall : ∀ v ∈ ks.map (fun x => Value.ref x.2.1), ∃ b p, v = Value.ref b ∧ H b = some (.tup [.int (p : Int × Int).1, .int p.2]) := fun v hv => by
    obtain ⟨x, hx1, rfl⟩ := List.mem_map.mp hv
    obtain ⟨p, hp⟩ := paired_mem hpt x hx1
    exact ⟨_, p, rfl, hp⟩
  have hpair : ∀ v ∈ ks.map (fun x => Value.ref x.2.1), Srt.IsPair s.heap v (ptOf H (.ref (adrOf v))).1 (ptOf H (.ref (adrOf v))).2 := fun v hv => by
    obtain ⟨b, p, rfl, hb⟩ := hall v hv
    show Srt.IsPair s.heap (Value.ref b) (ptOf H (.ref b)).1 (ptOf H (.ref b)).2
    rw [ptOf_at hb]
    obtain ⟨_, its2, r2, o2, ho2, hc2, n2, hd2⟩ := I.hok _ _ hb
    obtain ⟨u1, u2, rfl, ri, rj⟩ := vals2 r2
    obtain ⟨t1, rfl⟩ := ri
    obtain ⟨t2, rfl⟩ := rj
    exact ⟨b, o2, t1, t2, n2, rfl, ho2, hc2, hd2⟩
  refine ⟨fun v u => SrtO.lexB (ptOf H (.ref (adrOf v))) (ptOf H (.ref (adrOf u))), SrtO.swo_lex fun u => ptOf H (.ref (adrOf u)), by rw [List.length_map]; omega, fun h2 h1 a' ha' hk2 => SrtO.pairs_sortableO (by omega) (fun v hv => (hpair v hv).keeps fun b o e _ => (hk2 b o (hk b o e)).2) fun o e => ?_, fun out h1 h2 h'' c hk2 hc2 => ?_⟩
  · have e' : some o = some (seqObj "list" (ks.map fun x => Value.ref x.2.1).toArray 0) := e.symm.trans ha'
    cases e'
    show Value.type "list" ≠ .type "tuple"
    decide +kernel
  have pm := h2.perm
  have hout : ∀ v ∈ out, ∃ b p, v = Value.ref b ∧ H b = some (.tup [.int (p : Int × Int).1, .int p.2]) := fun v hv => hall v (pm.mem_iff.mp hv)
  have k2 : ∀ b o, s.heap.get? b = some o → h''.get? b = some o := fun b o e => hk2 b o (hk b o e)
  have I1 : Inv X pins σ H { s with heap := h', toks := tk } := I.kept hk
  refine ⟨.ref h'.objs.size, upd H h'.objs.size (.lst ((out.map adrOf).map V.ref)), ?_, rfl, q (out.map fun v => ptOf H (.ref (adrOf v))) (out.map adrOf) _ ?_ ?_ ?_ I1.fresh⟩
  · exact I1.laid (t' := tk) hk2 (Nat.le_refl _) ⟨by rw [List.length_map, List.length_map, pm.length_eq, List.length_map]; omega, out, c, vals_adr out fun v hv => let ⟨b, _, e, _⟩ := hout v hv; ⟨b, e⟩, hc2⟩
  · have e := pm.map fun v => ptOf H (.ref (adrOf v))
    rw [List.map_map] at e
    have e2 := pt_map hpt
    rw [← e2]
    exact e
  · refine List.pairwise_map.mpr (h1.imp fun {x y} hxy => ?_)
    have hn2 := SrtO.lexB_no.mp hxy
    unfold LeP
    omega
  · refine paired_map _ _ out fun v hv => ?_
    obtain ⟨b, p, rfl, hb⟩ := hout v hv
    show H b = some (.tup [.int (ptOf H (.ref b)).1, .int (ptOf H (.ref b)).2])
    rw [ptOf_at hb]
    exact hb
end
end Kw
set_option Elab.async false
set_option linter.all false
set_option maxRecDepth 100000
set_option maxHeartbeats 2000000
/-! Rules of the hand layer that it lacks, the fifth part: what for walks. -/
namespace Kw
open PySem PySem.Spec PyProof.Rows L2

section
variable {X : Cx} {pins : List (Addr × Obj)} {σ : L2.St} {H : Hp} {s : Shared} {d : Addr} {o : Obj}
theorem frzTv {kvs : List (List Key × V)} (I : Inv X pins σ H s) (h : H d = some (.frz o (.dT kvs))) :
    (d == sysModules) = false ∧ s.heap.get? d = some o ∧ o.ExactDict ∧ ∃ (es : Array DictEntry) (ep : Nat), o.data = .dict es ep ∧ es.size = kvs.length ∧
      ∀ (i : Nat) (k : List Key) (v : V), kvs[i]? = some (k, v) → ∃ en : DictEntry, es[i]? = some en ∧ L2.RelV v en.val := by
  obtain ⟨hd, z, hs, xs, pr, o', es, ep, ho, hx, hdt, he, _⟩ := I.hok d _ h
  rw [hd] at ho
  cases ho
  have l1 : es.size = xs.length := size_of_entries he
  have l2 : kvs.length = xs.length := Paired.length pr
  refine ⟨hs, hd, hx, es, ep, hdt, l1.trans l2.symm, fun i k v e => ?_⟩
  have hi : i < xs.length := by
    have := (List.getElem?_eq_some_iff.mp e).1
    omega
  have q := entry_at he i
  rw [List.getElem?_eq_getElem hi] at q
  have key : ∀ {kvs : List (List Key × V)} {xs : List (List Key × Addr × Value)}, KT H kvs xs → ∀ (i : Nat) (p : List Key × V) (y : List Key × Addr × Value), kvs[i]? = some p → xs[i]? = some y → L2.RelV p.2 y.2.2 := by
    intro kvs xs pr
    induction pr with
    | nil => intro i p y e1; simp at e1
    | cons hq t ih =>
      intro i p y e1 e2
      cases i with
      | zero =>
        simp at e1 e2
        subst e1
        subst e2
        exact hq.2.2
      | succ i => exact ih i p y (by simpa using e1) (by simpa using e2)
  exact ⟨_, q, key pr i _ _ e (List.getElem?_eq_getElem hi)⟩
end
/-- the values of a dict with tuple keys -/
def Itdt (d : Addr) (o : Obj) (kvs : List (List Key × V)) : It :=
  ⟨fun i H => H d = some (.frz o (.dT kvs)) ∧ i < kvs.length, fun i H x H' => H' = H ∧ ∃ k, kvs[i]? = some (k, x), fun i H => H d = some (.frz o (.dT kvs)) ∧ kvs.length ≤ i⟩
section
variable {P : Program} {w : World} {K : PySem.W.Frag} {tg : Expr} {d : Addr} {o : Obj} {es : Array DictEntry} {ep : Nat}
theorem turn_valsT {kvs : List (List Key × V)} (it : Addr) (hod : o.data = .dict es ep) : Turn P w K tg (Itdt d o kvs) [it] it (fun i h => h.IsValIter it d i kvs.length ep) where
  mem := by simp
  obj := fun i h st b hb => by
    obtain rfl : b = it := by simpa using hb
    obtain ⟨oi, e, c, dd⟩ := st
    exact ⟨oi, e, fun v z => by rw [dd] at z; cases z⟩
  keep := fun i h h' st k => st.at fun oi e => k it (by simp) oi e
  item := by
    intro X hP hw hK hc i pins s σ H E I hf st hg
    subst hP hw hK
    obtain ⟨hd, hi⟩ := hg
    obtain ⟨f0, f1, f2, f3, f4, f5⟩ := hf it (by simp)
    obtain ⟨hs, hgd, hx, es', ep', hdt, hsz, ent⟩ := frzTv I hd
    obtain ⟨rfl, rfl⟩ := dict_ep hod hdt
    obtain ⟨⟨k, v⟩, hkv⟩ : ∃ p, kvs[i]? = some p := ⟨kvs[i], List.getElem?_eq_getElem hi⟩
    obtain ⟨en, hen, rv⟩ := ent i k v hkv
    rw [← hsz] at st
    obtain ⟨hlt, een⟩ := Array.getElem?_eq_some_iff.mp hen
    refine wpAny_pyNext_values_item_raw st ⟨o, hgd, hx, hdt⟩ hlt fun h' st' sb => ?_
    rw [een]
    have I1 : Inv X pins σ H { s with heap := h' } := I.turned (t' := s.toks) (fun b ob hb e => (sb.2 b hb).trans e) f0 f1 f3 f4 f5
    obtain ⟨oi, e, c, dd⟩ := id st'
    exact ⟨en.val, rfl, go_of (s := { s with heap := h' }) e c dd (by decide) ⟨v, H, I1, rv, ⟨rfl, k, hkv⟩, (by rw [hsz] at st'; exact st'), fun b hb => (hf b hb).1⟩⟩
  done := by
    intro X hP hw hK hc i pins s σ H E I hf st hg
    subst hP hw hK
    obtain ⟨hd, hi⟩ := hg
    obtain ⟨f0, f1, f2, f3, f4, f5⟩ := hf it (by simp)
    obtain ⟨hs, hgd, hx, es', ep', hdt, hsz, ent⟩ := frzTv I hd
    obtain ⟨rfl, rfl⟩ := dict_ep hod hdt
    rw [← hsz] at st
    exact wpAny_pyNext_values_end_raw (I.ok.hd hc) st ⟨o, hgd, hx, hdt⟩ (by omega) fun h' eb => ⟨rfl, I.turned (t' := s.toks) (fun b ob hb e => eb b ob hb e) f0 f1 f3 f4 f5⟩
  self := fun A i s Q E st h => wpAny_pyIter_valiter st h
end
def iValsT (td : TE) : TI := fun σ H R => td σ H fun x H1 => ∃ d o kvs, x = .ref d ∧ H1 d = some (.frz o (.dT kvs)) ∧ R (Itdt d o kvs) H1
section
variable {X : Cx} {tg e : Expr} {td : TE} {apos cpos : Pos}
theorem pi_valuesT (he : PE X e td) (hbase : attributeBase e "values" X.env (eval e X.env) = eval e X.env := by rfl) (hline : (apos.endLine == cpos.line) = true := by rfl) : PI X tg (.Call (.Attribute e "values" apos) [] [] cpos) (iValsT td) := by
  refine ⟨fun pins s σ H R I h => ?_⟩
  refine wpAny_Call_method (T := "dict") (id := "dict.values") hbase rfl hline PySem.F.plainAttrs_dict PySem.F.slot_dict_values PySem.F.type_dict_values (thn (he.run pins s σ H _ I h) fun u s1 ⟨x, H1, I1, rx, d, o, kvs, ex, hd, q⟩ => ?_)
  subst ex
  obtain rfl : u = Value.ref d := rx
  obtain ⟨hs, hgd, hx, es, ep, hdt, hsz, ent⟩ := frzTv I1 hd
  have hm : s1.heap.DictRaw d es ep := ⟨o, hgd, hx, hdt⟩
  refine ⟨hm.typeIs, fun a e => ?_, ?_⟩
  · cases e
    exact ⟨o, hgd, hx.2.1⟩
  have I2 : Inv X pins σ H1 { s1 with heap := s1.heap.push { cls := .type "dict_values", data := .fields #[.ref d] } } := I1.kept (t' := s1.toks) fun b ob q => Heap.get?_push_of_some _ q
  have fin : wpAny (model X.prog X.w) X.A (pyIter (.ref s1.heap.objs.size)) (PIE X pins σ tg R) X.xe { s1 with heap := s1.heap.push { cls := .type "dict_values", data := .fields #[.ref d] } } := by
    refine wpAny_pyIter_values_raw (d := d) ⟨_, Heap.get?_push_size _ rfl, rfl, rfl⟩ (hm.at fun o e => Heap.get?_push_of_some _ e) (pi_one (tk := s1.toks) I2 _ (turn_valsT _ hdt) ⟨_, Heap.get?_push_size _ rfl, rfl, ?_⟩ q)
    rw [hsz] <;> rfl
  show wpAny _ _ (callWith cpos (.builtin "dict.values") [.ref d] [] []) _ X.xe s1
  exact method_meetsIn PySem.F.slot_dict_values PySem.F.entry_dict_values rfl (PySem.evalArgs_none ⟨rfl, hm.typeIs, PySem.F.args_dict_values_1 _, _, meets_dict_values_raw d hs, ⟨es, ep, hm⟩, fin⟩)
end
end Kw
set_option Elab.async false
set_option linter.all false
set_option maxRecDepth 100000
set_option maxHeartbeats 2000000
/-! Rules of the hand layer that it lacks, the sixth part: enumerate over a text, zip strict. -/
namespace Kw
open PySem PySem.Spec PyProof.Rows L2

/-- T(e, .., k = v), T a built-in type -/
theorem cw_tyk {M : Model} {A : Around} {E : Value → Shared → Prop} {s : Shared} {env : Env} {pos : Pos} {T : String} {Q : Value → Shared → Prop} {e : Expr} {rest : List Expr} {kws : List Keyword} (hall : (backToKw pos (keywordEach kws env)).all (·.1.isSome) = true)
    (h : wpAny M A (spliced (backTo pos (starEach (e :: rest) env))) (fun vs s₁ => wpAny M A (evalAll ((backToKw pos (keywordEach kws env)).map (·.2)))
      (fun ks s₂ => wpAny M A (call (.type T) vs (((backToKw pos (keywordEach kws env)).filterMap (·.1)).zip ks)) Q E s₂) E s₁) E s)
    (hplain : ((backTo pos (starEach (e :: rest) env)).any (·.1) || (backToKw pos (keywordEach kws env)).any (·.1.isNone)) = false) (he : starEach (e :: rest) env = (false, eval e env) :: starEach rest env) :
    wpAny M A (callWith pos (.type T) [] (backTo pos (starEach (e :: rest) env)) (backToKw pos (keywordEach kws env))) Q E s :=
  PySem.W.callWith_of (P := fun _ => True) hplain (fun h _ => ⟨Keeper.machine, .inr (.inl rfl), PySem.W.Looks.of_pure rfl⟩)
    (evalArgs_kw2 hall (wpAny_mono h (fun vs s1 h1 => wpAny_mono h1 (fun ks s2 h2 => ⟨trivial, h2⟩) fun _ _ z => z) fun _ _ z => z) he)

/-! ### iterators that hand out new tuples -/
section
variable {X : Cx} {pins : List (Addr × Obj)} {σ : L2.St} {H : Hp} {s : Shared} {h' : Heap}
/-- n turns, its i the items of the tuple of turn i -/
def Itn (n : Nat) (its : Nat → List V) : It := ⟨fun i H => i < n, fun i H x H' => ∃ T, x = .ref T ∧ H T = none ∧ H' = upd H T (.tup (its i)), fun i H => i = n⟩
theorem turn_goesN {P : Program} {w : World} {K : PySem.W.Frag} {elts : List Expr} {kk : Nat} {tpos : Pos} {e : Addr} {fp wr : List Addr} {n : Nat} {Y : Nat → Heap → Value → Heap → Prop} {St : Nat → Heap → Prop} (its : Nat → List V)
    (hW : ∀ A : Around, A.handled = none → GoesN P w A (.Tuple elts kk tpos) e fp wr n Y St) (hmem : e ∈ fp) (hobj : ∀ i h, St i h → ∀ b ∈ fp, ∃ o, h.get? b = some o ∧ ∀ v, o.data ≠ .cell v)
    (hY : ∀ i h0 v h, i < n → Y i h0 v h → ∃ T vals, v = .ref T ∧ h0.objs.size ≤ T ∧ IsTup h T vals ∧ Vals (its i) vals.toList) (hz : ∀ i, (its i).length ≤ 100)
    (hkeep : ∀ i h h', St i h → (∀ b ∈ fp, ∀ o, h.get? b = some o → h'.get? b = some o) → St i h') (hself : ∀ (A : Around) (i : Nat) (s : Shared) (Q : Value → Shared → Prop) (E : Value → Shared → Prop), St i s.heap → Q (.ref e) s → wpAny (model P w) A (pyIter (.ref e)) Q E s) : Turn P w K (.Tuple elts kk tpos) (Itn n its) fp e St where
  mem := hmem
  obj := hobj
  keep := hkeep
  item := by
    intro X hP hw hK hc i pins s σ H E I hf st hg
    subst hP hw hK
    have W := hW X.A (I.ok.hd hc)
    refine wpAny_mono (W.goes i s (fun v s2 => ∃ x H', Inv X pins σ H' s2 ∧ L2.RelV x v ∧ (Itn n its).yld i H x H' ∧ St (i + 1) s2.heap ∧ ∀ b ∈ fp, H' b = none) E hg st fun v h' tk hy st' hk _ => ?_) (fun r s1 h1 => h1) fun _ _ z => z
    obtain ⟨T, vals, rfl, hT, hI, rv⟩ := hY i _ _ _ hg hy
    have hn : H T = none := I.hok.fresh hT
    refine ⟨.ref T, upd H T (.tup (its i)), I.turnedNew (t' := tk) (ch := fp) (fun b o hb q => hk b o (fun z => hb (W.sub b z)) q) hf hT ⟨?_, vals.toList, rv, by simpa using hI⟩, rfl, ⟨T, rfl, hn, rfl⟩, st', fun b hb => ?_⟩
    · have := hz i
      rw [sizeLine_eq]
      omega
    · have hlt : b < s.heap.objs.size := let ⟨o, e1, _⟩ := hobj i _ st b hb; Heap.lt_size e1
      rw [upd_ne (Nat.ne_of_lt (Nat.lt_of_lt_of_le hlt hT))]
      exact (hf b hb).1
  done := by
    intro X hP hw hK hc i pins s σ H E I hf st hg
    subst hP hw hK
    obtain rfl : i = n := hg
    have W := hW X.A (I.ok.hd hc)
    exact W.stops s (fun s2 => Inv X pins σ H s2) E st fun h' tk hk _ => I.turnedL (t' := tk) (ch := fp) (fun b o hb q => hk b o (fun z => hb (W.sub b z)) q) hf
  self := hself
end

/-! ### for a, b in enumerate(a text, start=1) -/
section
variable {X : Cx}
/-- the signs of a text -/
def signsV (x : Str) : List V := x.cps.toList.map fun c => V.str ⟨#[c]⟩
def itsEnum (x : Str) (i : Nat) : List V := match x.cps.toList[i]? with
  | some c => [.int (1 + (i : Int)), .str ⟨#[c]⟩]
  | none => []
def iEnumS (ta tk : TA) : TI := fun σ H R => ta σ H fun vs H1 => tk σ H1 fun ks H2 => ks = [.int 1] ∧ ∃ x : Str, vs = [.str x] ∧ R (Itn x.cps.size (itsEnum x)) H2
theorem pi_enumS {e k : Expr} {ta tk : TA} {p pos tpos kpos : Pos} {elts : List Expr} {kk : Nat} (hc : X.calm = true) (hg : Gl X "enumerate") (hm : X.mg "enumerate" = none) (ha : PA X [e] ta) (hk : PK X [⟨some "start", k, kpos⟩] tk) (hs : starEach [e] X.env = (false, eval e X.env) :: starEach [] X.env := by rfl)
    (hplain : ((backTo pos (starEach [e] X.env)).any (·.1) || (backToKw pos (keywordEach [⟨some "start", k, kpos⟩] X.env)).any (·.1.isNone)) = false := by rfl) :
    PI X (.Tuple elts kk tpos) (.Call (.Name "enumerate" p) [e] [⟨some "start", k, kpos⟩] pos) (iEnumS ta tk) := by
  refine ⟨fun pins s σ H R I h => ?_⟩
  refine wpAny_Call_Name_kw (ld_blt I hg hm boot_enumerate (cw_tyk rfl ?_ hplain hs))
  refine thn (ha.run pos pins s σ H _ I h) fun us s1 ⟨vs, H1, I1, r1, q1⟩ => ?_
  refine thn (hk.run pos pins s1 σ H1 _ I1 q1) fun ks s2 ⟨zs, H2, I2, rz, e1, x, ex, q⟩ => ?_
  subst e1 ex
  obtain ⟨uk, rfl, ru⟩ := Vals.one rz
  obtain ⟨t, rfl⟩ := ru
  obtain ⟨uv, rfl, rv⟩ := Vals.one r1
  obtain ⟨tx, rfl⟩ := rv
  show wpAny _ _ (call (.type "enumerate") [.str x tx] [(Str.ofString "start", .int 1 t)]) _ _ _
  refine enum_begins_start (begins_text x tx) trivial (by omega) (by omega) fun h' he hi hz hk => ?_
  have I3 : Inv X pins σ H2 { s2 with heap := h' } := I2.kept (t' := s2.toks) hk
  have hne : s2.heap.objs.size + 1 ≠ s2.heap.objs.size := Nat.succ_ne_self _
  have st0 : (∃ old, IsEnum h' (s2.heap.objs.size + 1) s2.heap.objs.size (1 + ((0 : Nat) : Int)) old) ∧ h'.IsStrIter s2.heap.objs.size (strIterType x) x tx 0 := ⟨⟨_, he⟩, ⟨_, hi, rfl, rfl⟩⟩
  refine wpAny_pyIter_enum he ?_
  refine ⟨s2.heap.objs.size + 1, (s2.heap.objs.size + 1) :: [s2.heap.objs.size], _, _, H2, rfl, I3, turn_goesN (its := itsEnum x) (fun A hA => GoesN.enumFrom 1 (Draws.text (A := A.in1) hA s2.heap.objs.size x tx) (s2.heap.objs.size + 1) hne (fun z => hne (List.mem_singleton.mp z)) (List.mem_singleton.mpr rfl)) (List.mem_cons_self ..) ?_ ?_ ?_ ?_ ?_, st0, ?_, q⟩
  · rintro i h ⟨⟨old, e1⟩, o2, g2, c2, d2⟩ b hb
    rcases List.mem_cons.mp hb with e | hb
    · subst e
      exact ⟨_, e1, fun v z => nomatch z⟩
    · rw [List.mem_singleton.mp hb]
      exact ⟨_, g2, fun v z => by rw [d2] at z; cases z⟩
  · rintro i h0 v h hi ⟨T, t2, y, e1, e2, ⟨c, u, hx, e3⟩, e4⟩
    refine ⟨T, #[.int (1 + (i : Int)) t2, y], e1, e2, e4, ?_⟩
    subst e3
    have hx' : x.cps.toList[i]? = some c := by rw [Array.getElem?_toList]; exact hx
    show Vals (match x.cps.toList[i]? with
      | some c => [V.int (1 + (i : Int)), .str ⟨#[c]⟩]
      | none => []) _
    rw [hx']
    exact .cons ⟨_, rfl⟩ (.cons ⟨_, rfl⟩ .nil)
  · intro i
    show (match x.cps.toList[i]? with
      | some c => [V.int (1 + (i : Int)), .str ⟨#[c]⟩]
      | none => []).length ≤ 100
    split <;> simp
  · rintro i h h2 ⟨⟨old, e1⟩, o2, g2, c2, d2⟩ hk2
    exact ⟨⟨old, hk2 _ (List.mem_cons_self ..) _ e1⟩, o2, hk2 _ (List.mem_cons_of_mem _ (List.mem_singleton.mpr rfl)) _ g2, c2, d2⟩
  · rintro A i s Q E ⟨⟨old, e1⟩, _⟩ hq
    exact wpAny_pyIter_enum e1 hq
  · intro b hb
    have hn : H2 b = none := by
      rcases List.mem_cons.mp hb with e | hb
      · rw [e]; exact I2.hok.fresh (Nat.le_succ _)
      · rw [List.mem_singleton.mp hb]; exact I2.hok.fresh (Nat.le_refl _)
    have hle : s2.heap.objs.size ≤ b := by
      rcases List.mem_cons.mp hb with e | hb
      · rw [e]; exact Nat.le_succ _
      · rw [List.mem_singleton.mp hb]; exact Nat.le_refl _
    exact I2.fpOk hle hn
end
end Kw
set_option Elab.async false
set_option linter.all false
set_option maxRecDepth 100000
set_option maxHeartbeats 2000000
/-! Rules of the hand layer that it lacks, the seventh part: zip strict. -/
namespace Kw
open PySem PySem.Spec PyProof.Rows L2

abbrev IsZs (h : Heap) (z TI TO : Addr) (f0 : Value) : Prop :=
  h.get? z = some { cls := .type "zip", dict := none, data := .fields #[f0, .bool false, .bool true, .ref TI, .ref TO], slots := #[] }
section
variable {prog : Program} {w : World} {A : Around} {E : Value → Shared → Prop} {s : Shared} {z TI TO i1 i2 : Addr} {fp1 fp2 : List Addr} {n i : Nat} {P1 P2 : Nat → Value → Prop} {St1 St2 : Nat → Heap → Prop} {a1 a2 : Value}
theorem stop_raised {α : Type} {Q : α → Shared → Prop} (hh : A.handled = none) (hE : ∀ h' tk e, (∀ b o, s.heap.get? b = some o → h'.get? b = some o) → (∃ o, h'.get? e = some o ∧ o.cls = .type "StopIteration") → E (.ref e) { s with heap := h', toks := tk }) :
    wpAny (model prog w) A (Builtin.SmallTypes.stopIteration : Sem α) Q E s := by
  show wpAny _ _ (newExc (.type "StopIteration") [] >>= _) _ _ _
  refine wpAny_bind ?_
  simp only [newExc, newTuple]
  refine wpAny_bind (wpAny_newObj_type ?_ (by size_fits))
  refine wpAny_bind (m := firstArgMember _ _) (wpAny_of_eq (a := Value.none) (by first | rfl | (simp only [firstArgMember]; rfl)) ?_)
  refine wpAny_newObj_type ?_ (by size_fits)
  simp only [raiseNew]
  refine wpAny_bind (wpAny_handled ?_)
  rw [hh]
  refine wpAny_bind (wpAny_pure (wpAny_throw ?_))
  exact hE _ _ _ (fun b o e => Heap.get?_push_of_some _ (Heap.get?_push_of_some _ e)) ⟨_, Heap.get?_push_size _ rfl, rfl⟩
theorem drawE_item {it : Addr} {fp : List Addr} {P : Nat → Value → Prop} {St : Nat → Heap → Prop} {Q : Option Value → Shared → Prop} (D : Draws prog w A it fp n P St) (st : St i s.heap) (hlt : i < n)
    (h : ∀ x h' tk, P i x → St (i + 1) h' → Heap.SameBut it s.heap h' → Q (some x) { s with heap := h', toks := tk }) : wpAny (model prog w) A (Builtin.SmallTypes.nextOrEnd (.ref it)) Q E s := by
  unfold Builtin.SmallTypes.nextOrEnd
  exact wpAny_bind (wpAny_attempt (D.item i _ _ _ hlt st fun x h' tk hx sn hp => wpAny_pure (h x h' tk hx sn hp)))
theorem drawE_end {it : Addr} {fp : List Addr} {P : Nat → Value → Prop} {St : Nat → Heap → Prop} {Q : Option Value → Shared → Prop} (D : Draws prog w A it fp n P St) (st : St n s.heap)
    (h : ∀ h', Heap.ExtBut it s.heap h' → Q none { s with heap := h' }) : wpAny (model prog w) A (Builtin.SmallTypes.nextOrEnd (.ref it)) Q E s := by
  unfold Builtin.SmallTypes.nextOrEnd
  refine wpAny_bind (wpAny_attempt (D.done s _ _ st fun h' e hq he => ?_))
  obtain ⟨o, ho, hc⟩ := he
  exact wpAny_bind (wpAny_isInstance (T := "StopIteration") (b := true) ⟨o, ho, hc⟩ isSubtype_stop (wpAny_pure (h h' hq)))
theorem zs_item {Q : Value → Shared → Prop} (S : ZipSep2 z TI TO i1 i2 fp1 fp2) (D1 : Draws prog w A i1 fp1 n P1 St1) (D2 : Draws prog w A i2 fp2 n P2 St2)
    (hz : IsZs s.heap z TI TO .none) (hTI : IsTupOf2 s.heap TI (.ref i1) (.ref i2)) (hTO : IsTupOf2 s.heap TO a1 a2) (st1 : St1 i s.heap) (st2 : St2 i s.heap) (hlt : i < n)
    (hQ : ∀ x1 x2 h' tk, P1 i x1 → P2 i x2 → IsZs h' z TI TO (rawInt s.heap.objs.size) → IsTupOf2 h' TO x1 x2 → St1 (i + 1) h' → St2 (i + 1) h' → IsTupOf2 h' s.heap.objs.size x1 x2 → h'.objs.size = s.heap.objs.size + 1 →
      (∀ c o, c ≠ z → c ≠ TO → c ≠ i1 → c ≠ i2 → s.heap.get? c = some o → h'.get? c = some o) → Q (.ref s.heap.objs.size) { s with heap := h', toks := tk }) :
    wpAny (model prog w) A (Builtin.«zip.__next__» ⟨[.ref z], []⟩) (fun fin s' => ∃ v, fin = .done (.ret v) ∧ Q v s') E s := by
  obtain ⟨hp, g, d, tk0, os⟩ := s
  show wpAny _ _ (field (.ref z) 2 >>= _) _ _ _
  refine wpAny_bind (wpAny_field hz rfl (x := .bool true) rfl ?_)
  show wpAny _ _ (field (.ref z) 3 >>= _) _ _ _
  refine wpAny_bind (wpAny_field hz rfl (x := .ref TI) rfl ?_)
  refine wpAny_bind (wpAny_seqItems hTI rfl ?_)
  show wpAny _ _ (Builtin.SmallTypes.ownedTupleIsFree (.ref z) >>= _) _ _ _
  refine wpAny_bind ?_
  unfold Builtin.SmallTypes.ownedTupleIsFree
  refine wpAny_bind (wpAny_field hz rfl (x := .none) rfl (wpAny_pure ?_))
  simp only [if_true]
  refine wpAny_bind (wpAny_rule ?_)
  refine wpAny_bind (wpAny_field hz rfl (x := .ref TO) rfl ?_)
  refine wpAny_bind (wpAny_setField_rec hz (by simp) fun g0 hz0 hs0 => ?_)
  replace hz0 : IsZs g0 z TI TO .ellipsis := hz0
  replace hs0 : Heap.SameBut z hp g0 := hs0
  refine wpAny_bind ?_
  simp only [List.zipIdx_cons, List.zipIdx_nil, List.forIn_cons, List.forIn_nil]
  refine wpAny_bind (wpAny_bind (wpAny_onRaise ?_))
  show wpAny _ _ (Builtin.SmallTypes.nextOrEnd (.ref i1)) _ _ ⟨g0, g, d, tk0, os⟩
  refine drawE_item D1 (D1.over st1 hs0 S.zf1) hlt fun x1 p1 tk1 hx1 sn1 hp1 => ?_
  replace hp1 : Heap.SameBut i1 g0 p1 := hp1
  have hU1 : IsTupOf2 p1 TO a1 a2 := hp1.extBut _ _ S.Ti1 (hs0.extBut _ _ S.TOz hTO)
  refine wpAny_bind (wpAny_seqItems (s := ⟨p1, g, d, tk1, os⟩) hU1 rfl ?_)
  refine wpAny_bind (updateSeq_IsTupOf2 (s := ⟨p1, g, d, tk1, os⟩) hU1 fun g1 hT1 hs1 => ?_)
  replace hT1 : IsTupOf2 g1 TO x1 a2 := hT1
  replace hs1 : Heap.SameBut TO p1 g1 := hs1
  refine wpAny_bind (wpAny_letGo (wpAny_pure ?_))
  refine wpAny_bind (wpAny_bind (wpAny_onRaise ?_))
  show wpAny _ _ (Builtin.SmallTypes.nextOrEnd (.ref i2)) _ _ ⟨g1, g, d, tk1, os⟩
  refine drawE_item D2 (D2.over (D2.over (D2.over st2 hs0 S.zf2) hp1 S.sep1_2) hs1 S.Tf2) hlt fun x2 p2 tk2 hx2 sn2 hp2 => ?_
  replace hp2 : Heap.SameBut i2 g1 p2 := hp2
  have hU2 : IsTupOf2 p2 TO x1 a2 := hp2.extBut _ _ S.Ti2 hT1
  refine wpAny_bind (wpAny_seqItems (s := ⟨p2, g, d, tk2, os⟩) hU2 rfl ?_)
  refine wpAny_bind (updateSeq_IsTupOf2 (s := ⟨p2, g, d, tk2, os⟩) hU2 fun g2 hT2 hs2 => ?_)
  replace hT2 : IsTupOf2 g2 TO x1 x2 := hT2
  replace hs2 : Heap.SameBut TO p2 g2 := hs2
  refine wpAny_bind (wpAny_letGo (wpAny_pure (wpAny_pure ?_)))
  refine wpAny_bind (wpAny_seqItems (s := ⟨g2, g, d, tk2, os⟩) hT2 rfl ?_)
  refine wpAny_bind (wpAny_newTuple ?_)
  have hsz : g2.objs.size = hp.objs.size := by rw [hs2.1, hp2.1, hs1.1, hp1.1, hs0.1]
  have hzz : IsZs g2 z TI TO .ellipsis := (hs2.extBut _ _ S.TOz.symm (hp2.extBut _ _ S.zi2 (hs1.extBut _ _ S.TOz.symm (hp1.extBut _ _ S.zi1 hz0))))
  have hkk : ∀ c o, c ≠ z → c ≠ TO → c ≠ i1 → c ≠ i2 → hp.get? c = some o → g2.get? c = some o := fun c o cz cT c1 c2 e =>
    (hs2.extBut _ _ cT (hp2.extBut _ _ c2 (hs1.extBut _ _ cT (hp1.extBut _ _ c1 (hs0.extBut _ _ cz e)))))
  have hj1 : St1 (i + 1) g2 := (D1.over (D1.over (D1.over sn1 hs1 S.Tf1) hp2 S.sep2_1) hs2 S.Tf1)
  have hj2 : St2 (i + 1) g2 := (D2.over sn2 hs2 S.Tf2)
  have hzlt : z < g2.objs.size := Heap.lt_size hzz
  show wpAny _ _ (Builtin.SmallTypes.ownedTupleHandOut (.ref z) (.ref g2.objs.size) >>= _) _ _ ⟨g2.push { cls := .type "tuple", data := .seq #[x1, x2] }, g, d, tk2, os⟩
  refine wpAny_bind ?_
  unfold Builtin.SmallTypes.ownedTupleHandOut
  have hz₆ : IsZs (g2.push { cls := .type "tuple", data := .seq #[x1, x2] }) z TI TO .ellipsis := Heap.get?_push_of_some _ hzz
  refine wpAny_bind (wpAny_setField_rec hz₆ (by simp) fun h₇ hz₇ hs₇ => ?_)
  replace hz₇ : IsZs h₇ z TI TO (rawInt g2.objs.size) := hz₇
  refine wpAny_setField_rec hz₇ (by simp) fun h₈ hz₈ hs₈ => ?_
  replace hz₈ : IsZs h₈ z TI TO (rawInt g2.objs.size) := hz₈
  replace hs₇ : Heap.SameBut z (g2.push { cls := .type "tuple", data := .seq #[x1, x2] }) h₇ := hs₇
  replace hs₈ : Heap.SameBut z h₇ h₈ := hs₈
  have up : ∀ c o, c ≠ z → g2.get? c = some o → h₈.get? c = some o := fun c o c1 e => hs₈.extBut _ _ c1 (hs₇.extBut _ _ c1 (Heap.get?_push_of_some _ e))
  have hT₈ : IsTupOf2 h₈ g2.objs.size x1 x2 := hs₈.extBut _ _ (Nat.ne_of_gt hzlt) (hs₇.extBut _ _ (Nat.ne_of_gt hzlt) (Heap.get?_push_size _ rfl))
  have hz8 : h₈.objs.size = g2.objs.size + 1 := by rw [hs₈.1, hs₇.1, Heap.size_push]
  rw [hsz] at hz₈ hT₈ hz8
  refine wpAny_pure ⟨_, rfl, ?_⟩
  show Q (.ref g2.objs.size) ⟨h₈, g, d, tk2, os⟩
  rw [hsz]
  exact hQ x1 x2 h₈ tk2 hx1 hx2 hz₈ (up _ _ S.TOz hT2) (D1.frame _ _ _ hj1 fun b hb o e => up b o (fun q => S.zf1 (q ▸ hb)) e) (D2.frame _ _ _ hj2 fun b hb o e => up b o (fun q => S.zf2 (q ▸ hb)) e) hT₈ hz8 fun c o cz cT c1 c2 e => up c o cz (hkk c o cz cT c1 c2 e)
theorem zs_end {Q : Fin → Shared → Prop} (hh : A.handled = none) (S : ZipSep2 z TI TO i1 i2 fp1 fp2) (D1 : Draws prog w A i1 fp1 n P1 St1) (D2 : Draws prog w A i2 fp2 n P2 St2)
    (hz : IsZs s.heap z TI TO .none) (hTI : IsTupOf2 s.heap TI (.ref i1) (.ref i2)) (hTO : IsTupOf2 s.heap TO a1 a2) (st1 : St1 n s.heap) (st2 : St2 n s.heap)
    (hE : ∀ h' tk e, (∀ c o, c ≠ z → c ≠ TO → c ≠ i1 → c ≠ i2 → s.heap.get? c = some o → h'.get? c = some o) → (∃ o, h'.get? e = some o ∧ o.cls = .type "StopIteration") → E (.ref e) { s with heap := h', toks := tk }) :
    wpAny (model prog w) A (Builtin.«zip.__next__» ⟨[.ref z], []⟩) Q E s := by
  obtain ⟨hp, g, d, tk0, os⟩ := s
  show wpAny _ _ (field (.ref z) 2 >>= _) _ _ _
  refine wpAny_bind (wpAny_field hz rfl (x := .bool true) rfl ?_)
  show wpAny _ _ (field (.ref z) 3 >>= _) _ _ _
  refine wpAny_bind (wpAny_field hz rfl (x := .ref TI) rfl ?_)
  refine wpAny_bind (wpAny_seqItems hTI rfl ?_)
  show wpAny _ _ (Builtin.SmallTypes.ownedTupleIsFree (.ref z) >>= _) _ _ _
  refine wpAny_bind ?_
  unfold Builtin.SmallTypes.ownedTupleIsFree
  refine wpAny_bind (wpAny_field hz rfl (x := .none) rfl (wpAny_pure ?_))
  simp only [if_true]
  refine wpAny_bind (wpAny_rule ?_)
  refine wpAny_bind (wpAny_field hz rfl (x := .ref TO) rfl ?_)
  refine wpAny_bind (wpAny_setField_rec hz (by simp) fun g0 hz0 hs0 => ?_)
  replace hz0 : IsZs g0 z TI TO .ellipsis := hz0
  replace hs0 : Heap.SameBut z hp g0 := hs0
  refine wpAny_bind ?_
  simp only [List.zipIdx_cons, List.zipIdx_nil, List.forIn_cons, List.forIn_nil]
  refine wpAny_bind (wpAny_bind (wpAny_onRaise ?_))
  show wpAny _ _ (Builtin.SmallTypes.nextOrEnd (.ref i1)) _ _ ⟨g0, g, d, tk0, os⟩
  refine drawE_end D1 (D1.over st1 hs0 S.zf1) fun q1 hq1 => ?_
  replace hq1 : Heap.ExtBut i1 g0 q1 := hq1
  have hzq : IsZs q1 z TI TO .ellipsis := hq1 _ _ S.zi1 hz0
  refine wpAny_bind (wpAny_setField_rec (s := ⟨q1, g, d, tk0, os⟩) hzq (by simp) fun g1 _ hs1 => ?_)
  replace hs1 : Heap.SameBut z q1 g1 := hs1
  have st2' : St2 n g1 := D2.over (D2.frame _ _ _ (D2.over st2 hs0 S.zf2) fun b hb o e => hq1 b o (fun x => S.sep1_2 (x ▸ hb)) e) hs1 S.zf2
  refine wpAny_bind ?_
  refine wpAny_bind ?_
  show wpAny _ _ (forIn [(Value.ref i2, 1)] _ _) _ _ _
  simp only [List.forIn_cons, List.forIn_nil]
  refine wpAny_bind (wpAny_bind ?_)
  refine drawE_end (s := ⟨g1, g, d, tk0, os⟩) D2 st2' fun q2 hq2 => ?_
  replace hq2 : Heap.ExtBut i2 g1 q2 := hq2
  simp only [Option.isSome_none, Bool.false_eq_true, if_false]
  refine wpAny_pure (wpAny_pure (wpAny_bind (wpAny_rule ?_)))
  refine stop_raised hh fun h' tk e hk he => ?_
  exact hE h' tk e (fun c o cz cT c1 c2 x => hk c o (hq2 c o c2 (hs1.extBut c o cz (hq1 c o c1 (hs0.extBut c o cz x))))) he
theorem next_zs_item {Q : Option Value → Shared → Prop} (S : ZipSep2 z TI TO i1 i2 fp1 fp2) (D1 : Draws prog w A.in1 i1 fp1 n P1 St1) (D2 : Draws prog w A.in1 i2 fp2 n P2 St2)
    (hz : IsZs s.heap z TI TO .none) (hTI : IsTupOf2 s.heap TI (.ref i1) (.ref i2)) (hTO : IsTupOf2 s.heap TO a1 a2) (st1 : St1 i s.heap) (st2 : St2 i s.heap) (hlt : i < n)
    (hQ : ∀ x1 x2 h' tk, P1 i x1 → P2 i x2 → IsZs h' z TI TO (rawInt s.heap.objs.size) → IsTupOf2 h' TO x1 x2 → St1 (i + 1) h' → St2 (i + 1) h' → IsTupOf2 h' s.heap.objs.size x1 x2 → h'.objs.size = s.heap.objs.size + 1 →
      (∀ c o, c ≠ z → c ≠ TO → c ≠ i1 → c ≠ i2 → s.heap.get? c = some o → h'.get? c = some o) → Q (some (.ref s.heap.objs.size)) { s with heap := h', toks := tk }) :
    wpAny (model prog w) A (pyNext (.ref z)) Q E s := by
  have hT : s.TypeIs (.ref z) "zip" := ⟨_, hz, rfl⟩
  unfold pyNext
  exact wpAny_bind (wpAny_attempt (wpAny_callSpecial?_slot (name := Str.ofString "__next__") hT F.slot_zip_next
    (wpAny_call_entry F.slot_zip_next hT F.entry_zip_next
      (zs_item S D1 D2 hz hTI hTO st1 st2 hlt fun x1 x2 h' tk y1 y2 b1 b2 d1 d2 b5 b6 b7 => wpAny_pure (hQ x1 x2 h' tk y1 y2 b1 b2 d1 d2 b5 b6 b7)) (F.args_zip_next_1 _))))
theorem next_zs_end {Q : Option Value → Shared → Prop} (hh : A.handled = none) (S : ZipSep2 z TI TO i1 i2 fp1 fp2) (D1 : Draws prog w A.in1 i1 fp1 n P1 St1) (D2 : Draws prog w A.in1 i2 fp2 n P2 St2)
    (hz : IsZs s.heap z TI TO .none) (hTI : IsTupOf2 s.heap TI (.ref i1) (.ref i2)) (hTO : IsTupOf2 s.heap TO a1 a2) (st1 : St1 n s.heap) (st2 : St2 n s.heap)
    (hQ : ∀ h' tk, (∀ c o, c ≠ z → c ≠ TO → c ≠ i1 → c ≠ i2 → s.heap.get? c = some o → h'.get? c = some o) → Q none { s with heap := h', toks := tk }) : wpAny (model prog w) A (pyNext (.ref z)) Q E s := by
  have hT : s.TypeIs (.ref z) "zip" := ⟨_, hz, rfl⟩
  unfold pyNext
  refine wpAny_bind (wpAny_attempt (wpAny_callSpecial?_slot (name := Str.ofString "__next__") hT F.slot_zip_next
    (wpAny_call_entry F.slot_zip_next hT F.entry_zip_next (zs_end (A := A.in1) hh S D1 D2 hz hTI hTO st1 st2 fun h' tk e hk he => ?_) (F.args_zip_next_1 _))))
  obtain ⟨o, ho, hc⟩ := he
  refine wpAny_bind (wpAny_isInstance (T := "StopIteration") (b := true) ⟨o, ho, hc⟩ isSubtype_stop ?_)
  exact wpAny_pure (hQ _ _ hk)
theorem go_zs {elts : List Expr} {x1} {pos : Pos} {T : Addr} {Q : Unit → Shared → Prop} (hz : IsZs s.heap z TI TO (rawInt T))
    (hQ : ∀ h', IsZs h' z TI TO .none → Heap.SameBut z s.heap h' → Q () { s with heap := h' }) :
    wpAny (model prog w) A (letOwnedTupleGo (.Tuple elts x1 pos) (.ref z) (.ref T)) Q E s := by
  unfold letOwnedTupleGo
  refine wpAny_bind (wpAny_load hz ?_)
  show wpAny _ _ (if (["enumerate", "zip", "dict_itemiterator", "dict_reverseitemiterator", "odict_iterator", "itertools.zip_longest", "itertools.pairwise"].contains "zip" &&
      (#[rawInt T, .bool false, .bool true, .ref TI, .ref TO] : Array Value)[0]? == some (rawInt T)) = true then _ else _) Q E s
  rw [if_pos (by simp)]
  refine wpAny_bind (wpAny_rule ?_)
  show wpAny _ _ (setField (.ref z) 0 .none) Q E s
  exact wpAny_setField_rec hz (by simp) fun h' hz' hs' => hQ h' hz' hs'
theorem iter_zs {f0 : Value} {Q : Value → Shared → Prop} (hz : IsZs s.heap z TI TO f0) (h : Q (.ref z) s) : wpAny (model prog w) A (pyIter (.ref z)) Q E s := by
  have hT : s.TypeIs (.ref z) "zip" := ⟨_, hz, rfl⟩
  refine wpAny_pyIter_slot hT F.slot_zip_iter (wpAny_call_entry F.slot_zip_iter hT F.entry_zip_iter ?_ (F.args_zip_iter_1 _))
  show wpAny _ _ (ret (.ref z)) _ _ s
  exact wpAny_pure ⟨_, rfl, "zip", _, hT, F.slot_zip_next.lookup, h⟩
theorem walks_zs (hh : A.handled = none) (S : ZipSep2 z TI TO i1 i2 fp1 fp2) (D1 : Draws prog w A.in1 i1 fp1 n P1 St1) (D2 : Draws prog w A.in1 i2 fp2 n P2 St2) :
    WalksT prog w A z (z :: TI :: TO :: (fp1 ++ fp2)) [z, TO, i1, i2] n
      (fun i vals => ∃ x1 x2, P1 i x1 ∧ P2 i x2 ∧ vals = #[x1, x2])
      (fun i h => IsZs h z TI TO .none ∧ IsTupOf2 h TI (.ref i1) (.ref i2) ∧ (∃ a1 a2, IsTupOf2 h TO a1 a2) ∧ St1 i h ∧ St2 i h)
      (fun i T h => IsZs h z TI TO (rawInt T) ∧ IsTupOf2 h TI (.ref i1) (.ref i2) ∧ (∃ a1 a2, IsTupOf2 h TO a1 a2) ∧ St1 (i + 1) h ∧ St2 (i + 1) h ∧ T ≠ z ∧ T ≠ TO ∧ T ≠ i1 ∧ T ≠ i2) where
  sub := fun c hc => by
    have hc' : c = z ∨ c = TO ∨ c = i1 ∨ c = i2 := by simpa using hc
    rcases hc' with rfl | rfl | rfl | rfl
    · exact List.mem_cons_self ..
    · exact List.mem_cons_of_mem _ (List.mem_cons_of_mem _ (List.mem_cons_self ..))
    · exact List.mem_cons_of_mem _ (List.mem_cons_of_mem _ (List.mem_cons_of_mem _ (List.mem_append_left _ S.mem1)))
    · exact List.mem_cons_of_mem _ (List.mem_cons_of_mem _ (List.mem_cons_of_mem _ (List.mem_append_right _ S.mem2)))
  frame := fun i h h' hst hk => by
    obtain ⟨hz, hTI, ⟨a1, a2, hTO⟩, st1, st2⟩ := hst
    exact ⟨hk z (List.mem_cons_self ..) _ hz, hk TI (List.mem_cons_of_mem _ (List.mem_cons_self ..)) _ hTI, ⟨a1, a2, hk TO (List.mem_cons_of_mem _ (List.mem_cons_of_mem _ (List.mem_cons_self ..))) _ hTO⟩,
      D1.frame _ _ _ st1 fun b hb o e => hk b (List.mem_cons_of_mem _ (List.mem_cons_of_mem _ (List.mem_cons_of_mem _ (List.mem_append_left _ hb)))) o e, D2.frame _ _ _ st2 fun b hb o e => hk b (List.mem_cons_of_mem _ (List.mem_cons_of_mem _ (List.mem_cons_of_mem _ (List.mem_append_right _ hb)))) o e⟩
  item := fun i s Q E hi hst hQ => by
    obtain ⟨hz, hTI, ⟨a1, a2, hTO⟩, st1, st2⟩ := hst
    refine next_zs_item S D1 D2 hz hTI hTO st1 st2 hi fun x1 x2 h' tk y1 y2 b1 b2 d1 d2 b5 b6 hk => ?_
    have lt : ∀ {c o}, s.heap.get? c = some o → s.heap.objs.size ≠ c := fun e => Nat.ne_of_gt (Heap.lt_size e)
    have l1 : s.heap.objs.size ≠ i1 := by obtain ⟨_, e⟩ := D1.live _ _ st1; exact lt e
    have l2 : s.heap.objs.size ≠ i2 := by obtain ⟨_, e⟩ := D2.live _ _ st2; exact lt e
    exact hQ s.heap.objs.size #[x1, x2] h' tk ⟨x1, x2, y1, y2, rfl⟩ (Nat.le_refl _) ⟨_, b5, rfl, _, rfl⟩
      ⟨b1, hk _ _ S.TIz S.TITO S.TIi1 S.TIi2 hTI, ⟨_, _, b2⟩, d1, d2, lt hz, lt hTO, l1, l2⟩
      fun c o hc e => hk c o (fun x => hc (by simp [x])) (fun x => hc (by simp [x])) (fun x => hc (by simp [x])) (fun x => hc (by simp [x])) e
  go := fun elts k pos i T s Q E hm hQ => by
    obtain ⟨hz, hTI, ⟨a1, a2, hTO⟩, st1, st2, _⟩ := hm
    refine go_zs hz fun h' hz' hs' => hQ h' ⟨hz', hs'.extBut _ _ S.TIz hTI, ⟨a1, a2, hs'.extBut _ _ S.TOz hTO⟩, D1.over st1 hs' S.zf1, D2.over st2 hs' S.zf2⟩ fun c o hc e => hs'.extBut _ _ (fun x => hc (by simp [x])) e
  apart := fun i T h hm hT => by
    obtain ⟨_, _, _, _, _, tz, tT, t1, t2⟩ := hm
    have hT' : T = z ∨ T = TO ∨ T = i1 ∨ T = i2 := by simpa using hT
    rcases hT' with e | e | e | e
    · exact tz e
    · exact tT e
    · exact t1 e
    · exact t2 e
  done := fun s Q E hst hQ => by
    obtain ⟨hz, hTI, ⟨a1, a2, hTO⟩, st1, st2⟩ := hst
    exact next_zs_end hh S D1 D2 hz hTI hTO st1 st2 fun h' tk hk => hQ h' tk fun c o hc e =>
      hk c o (fun x => hc (by simp [x])) (fun x => hc (by simp [x])) (fun x => hc (by simp [x])) (fun x => hc (by simp [x])) e
  self := fun i s Q E hst hQ => iter_zs hst.1 hQ
end

/-! ### zip(v1, v2, strict=True) begins -/
abbrev zsZ2 (h : Heap) (o1 o2 : Obj) : Heap := (gzO2 h o1 o2).push { cls := .type "zip", data := .fields #[.none, .bool false, .bool true, .ref ((h.push o1).push o2).objs.size, .ref (gzT2 h o1 o2).objs.size] }
theorem typeCall_zs (a b c : Value) : checkTypeCall "zip" ⟨[a, b], [(Str.ofString "strict", c)]⟩ = pure () := by kernel_rfl
theorem newCall_zs (a b c : Value) : checkBuiltinCall "zip.__new__" ⟨[.type "zip", a, b], [(Str.ofString "strict", c)]⟩ = pure () := by kernel_rfl
theorem args_object_init_zs (obj a b c : Value) : argsOk "object.__init__" ⟨[obj, a, b], [(Str.ofString "strict", c)]⟩ := by unfold argsOk; kernel_rfl
theorem meets_zs_new {v1 v2 : Value} {o1 o2 : Obj} {H1 H2 : Heap → Prop} (B1 : Begins v1 o1 H1) (B2 : Begins v2 o2 H2) :
    Meets (Builtin.«zip.__new__» ⟨[.type "zip", v1, v2], [(Str.ofString "strict", .bool true)]⟩) (fun _ R s => (H1 s.heap ∧ H2 s.heap) ∧
      R (.ok (.ret (.ref (gzO2 s.heap o1 o2).objs.size))) { s with heap := zsZ2 s.heap o1 o2 }) :=
  .of_wp fun prog w A R s h => by
    obtain ⟨hp, g, d, tk, os⟩ := s; obtain ⟨⟨h1, h2⟩, h⟩ := h
    have hsub := sub_zip
    have e1 : (Str.ofString "strict" == ("strict" : Str)) = true := by decide +kernel
    have e2 : (Str.ofString "strict" != ("strict" : Str)) = false := by decide +kernel
    have q1 : ∀ {A' : Around} {E : Value → Shared → Prop} {Q : Value → Shared → Prop}, Q (.ref hp.objs.size) ⟨(hp.push o1), g, d, tk, os⟩ → wpAny (model prog w) A' (pyIter v1) Q E ⟨hp, g, d, tk, os⟩ :=
      fun q => B1.iter prog w _ _ ⟨hp, g, d, tk, os⟩ _ (B1.keeps _ _ h1 fun b o' e => e) q
    have q2 : ∀ {A' : Around} {E : Value → Shared → Prop} {Q : Value → Shared → Prop}, Q (.ref (hp.push o1).objs.size) ⟨((hp.push o1).push o2), g, d, tk, os⟩ → wpAny (model prog w) A' (pyIter v2) Q E ⟨(hp.push o1), g, d, tk, os⟩ :=
      fun q => B2.iter prog w _ _ ⟨(hp.push o1), g, d, tk, os⟩ _ (B2.keeps _ _ h2 fun b o' e => (Heap.get?_push_of_some _ e)) q
    wp_walk using q1, q2
    exact ⟨_, rfl, h⟩
section
variable {prog : Program} {w : World} {A : Around} {E : Value → Shared → Prop} {s : Shared}
theorem zs_begins {v1 v2 : Value} {o1 o2 : Obj} {H1 H2 : Heap → Prop} {Q : Value → Shared → Prop} (B1 : Begins v1 o1 H1) (B2 : Begins v2 o2 H2) (h1 : H1 s.heap) (h2 : H2 s.heap)
    (h : ∀ h', IsZs h' (s.heap.objs.size + 4) (s.heap.objs.size + 2) (s.heap.objs.size + 3) .none → IsTupOf2 h' (s.heap.objs.size + 2) (.ref s.heap.objs.size) (.ref (s.heap.objs.size + 1)) →
      IsTupOf2 h' (s.heap.objs.size + 3) .none .none → h'.get? s.heap.objs.size = some o1 → h'.get? (s.heap.objs.size + 1) = some o2 → h'.objs.size = s.heap.objs.size + 5 →
      (∀ c o, s.heap.get? c = some o → h'.get? c = some o) → Q (.ref (s.heap.objs.size + 4)) { s with heap := h' }) :
    wpAny (model prog w) A (call (.type "zip") [v1, v2] [(Str.ofString "strict", .bool true)]) Q E s := by
  refine callType_newKw F.called_zip (by decide) (typeCall_zs _ _ _) (newCall_zs _ _ _) (fun obj => args_object_init_zs obj _ _ _) F.entry_zip_new
    (meets_zs_new B1 B2) ⟨⟨h1, h2⟩, ?_⟩
  have z1 : (s.heap.push o1).objs.size = s.heap.objs.size + 1 := by rw [Heap.size_push]
  have z2 : ((s.heap.push o1).push o2).objs.size = s.heap.objs.size + 2 := by rw [Heap.size_push, z1]
  have zT : (gzT2 s.heap o1 o2).objs.size = s.heap.objs.size + 3 := by rw [Heap.size_push, z2]
  have zO : (gzO2 s.heap o1 o2).objs.size = s.heap.objs.size + 4 := by rw [Heap.size_push, zT]
  have zZ : (zsZ2 s.heap o1 o2).objs.size = s.heap.objs.size + 5 := by rw [Heap.size_push, zO]
  have gZ : (zsZ2 s.heap o1 o2).get? (gzO2 s.heap o1 o2).objs.size = some { cls := .type "zip", data := .fields #[.none, .bool false, .bool true, .ref ((s.heap.push o1).push o2).objs.size, .ref (gzT2 s.heap o1 o2).objs.size] } := Heap.get?_push_size _ rfl
  have gO : (zsZ2 s.heap o1 o2).get? (gzT2 s.heap o1 o2).objs.size = some { cls := .type "tuple", data := .seq #[.none, .none] } := Heap.get?_push_of_some _ (Heap.get?_push_size _ rfl)
  have gT : (zsZ2 s.heap o1 o2).get? ((s.heap.push o1).push o2).objs.size = some { cls := .type "tuple", data := .seq #[.ref s.heap.objs.size, .ref (s.heap.push o1).objs.size] } := Heap.get?_push_of_some _ (Heap.get?_push_of_some _ (Heap.get?_push_size _ rfl))
  have g1 : (zsZ2 s.heap o1 o2).get? s.heap.objs.size = some o1 := Heap.get?_push_of_some _ (Heap.get?_push_of_some _ (Heap.get?_push_of_some _ (Heap.get?_push_of_some _ (Heap.get?_push_size _ B1.free))))
  have g2 : (zsZ2 s.heap o1 o2).get? (s.heap.push o1).objs.size = some o2 := Heap.get?_push_of_some _ (Heap.get?_push_of_some _ (Heap.get?_push_of_some _ (Heap.get?_push_size _ B2.free)))
  rw [zO, zT, z2] at gZ
  rw [zT] at gO
  rw [z2, z1] at gT
  rw [z1] at g2
  show _ ∧ _
  rw [zO]
  exact ⟨⟨_, gZ, rfl⟩, h _ gZ gT gO g1 g2 zZ fun c o e => Heap.get?_push_of_some _ (Heap.get?_push_of_some _ (Heap.get?_push_of_some _ (Heap.get?_push_of_some _ (Heap.get?_push_of_some _ e))))⟩
end

/-! ### for a, b in zip(a tuple, a text, strict=True) -/
def itsZip (xs : List V) (x : Str) (i : Nat) : List V := match xs[i]?, x.cps.toList[i]? with
  | some v, some c => [v, .str ⟨#[c]⟩]
  | _, _ => []
def Itz (K : PySem.W.Frag) (a : Addr) (xs : List V) (x : Str) : It := ⟨fun i H => i < x.cps.size ∧ SqT K H a xs, fun i H u H' => ∃ T, u = .ref T ∧ H T = none ∧ H' = upd H T (.tup (itsZip xs x i)), fun i H => i = x.cps.size ∧ SqT K H a xs⟩
theorem add_ne (m : Nat) {i j : Nat} (h : i ≠ j) : m + i ≠ m + j := fun z => h (Nat.add_left_cancel z)
theorem add_ne0 (m : Nat) {i : Nat} (h : 0 ≠ i) : m ≠ m + i := fun z => h (Nat.add_left_cancel (k := i) (n := m) (m := 0) z)
theorem add_neS (m : Nat) {i : Nat} (h : 0 ≠ i) : m + i ≠ m := fun z => h (Nat.add_left_cancel (k := i) (n := m) (m := 0) z.symm)
theorem add_nel {m a : Nat} (i : Nat) (h : a < m) : m + i ≠ a := fun z => absurd (Nat.lt_of_lt_of_le h (Nat.le_add_right m i)) (by rw [z]; exact Nat.lt_irrefl a)
theorem sep_zs {m a : Addr} (h : a < m) : ZipSep2 (m + 4) (m + 2) (m + 3) m (m + 1) [m, a] [m + 1] where
  TIz := add_ne m (by decide)
  TOz := add_ne m (by decide)
  TITO := add_ne m (by decide)
  TIi1 := add_neS m (by decide)
  mem1 := List.mem_cons_self ..
  zf1 := by
    intro z
    rcases List.mem_cons.mp z with e | z
    · exact add_neS m (by decide) e
    · exact add_nel 4 h (List.mem_singleton.mp z)
  Tf1 := by
    intro z
    rcases List.mem_cons.mp z with e | z
    · exact add_neS m (by decide) e
    · exact add_nel 3 h (List.mem_singleton.mp z)
  TIi2 := add_ne m (by decide)
  mem2 := List.mem_singleton.mpr rfl
  zf2 := fun z => add_ne m (by decide) (List.mem_singleton.mp z)
  Tf2 := fun z => add_ne m (by decide) (List.mem_singleton.mp z)
  sep1_2 := fun z => add_ne0 m (by decide) (List.mem_singleton.mp z)
  sep2_1 := by
    intro z
    rcases List.mem_cons.mp z with e | z
    · exact add_neS m (by decide) e
    · exact add_nel 1 h (List.mem_singleton.mp z)
theorem wr_zs {m b : Addr} (z : b ∈ [m + 4, m + 3, m, m + 1]) : b ∈ [m + 4, m + 2, m + 3, m, m + 1] := by
  rcases List.mem_cons.mp z with e | z
  · exact e ▸ List.mem_cons_self ..
  · exact List.mem_cons_of_mem _ (List.mem_cons_of_mem _ z)
theorem fp_zs {m b : Addr} (z : b ∈ [m + 4, m + 2, m + 3, m, m + 1]) : m ≤ b := by
  rcases List.mem_cons.mp z with e | z
  · exact e ▸ Nat.le_add_right ..
  rcases List.mem_cons.mp z with e | z
  · exact e ▸ Nat.le_add_right ..
  rcases List.mem_cons.mp z with e | z
  · exact e ▸ Nat.le_add_right ..
  rcases List.mem_cons.mp z with e | z
  · exact e ▸ Nat.le_refl _
  · rw [List.mem_singleton.mp z]; exact Nat.le_add_right ..
def zsTn (m : Nat) (a : Addr) (x : Str) (tx : Tok) (i : Nat) (h : Heap) : Prop := IsZs h (m + 4) (m + 2) (m + 3) .none ∧ IsTupOf2 h (m + 2) (.ref m) (.ref (m + 1)) ∧ (∃ a1 a2, IsTupOf2 h (m + 3) a1 a2) ∧ h.IsTupleIter m a i ∧ h.IsStrIter (m + 1) (strIterType x) x tx i
theorem turn_zs {P : Program} {w : World} {K : PySem.W.Frag} {elts : List Expr} {kk : Nat} {tpos : Pos} {a m : Addr} {xs : List V} {x : Str} {tx : Tok} (hm : a < m) (hl : xs.length = x.cps.size) : Turn P w K (.Tuple elts kk tpos) (Itz K a xs x) [m + 4, m + 2, m + 3, m, m + 1] (m + 4) (zsTn m a x tx) where
  mem := List.mem_cons_self ..
  obj := by
    rintro i h ⟨b1, b2, ⟨c1, c2, b3⟩, ⟨o4, g4, k4, d4⟩, o6, g6, k6, d6⟩ b hb
    rcases List.mem_cons.mp hb with e | hb
    · exact e ▸ ⟨_, b1, fun v z => nomatch z⟩
    rcases List.mem_cons.mp hb with e | hb
    · exact e ▸ ⟨_, b2, fun v z => nomatch z⟩
    rcases List.mem_cons.mp hb with e | hb
    · exact e ▸ ⟨_, b3, fun v z => nomatch z⟩
    rcases List.mem_cons.mp hb with e | hb
    · exact e ▸ ⟨_, g4, fun v z => by rw [d4] at z; cases z⟩
    · rw [List.mem_singleton.mp hb]
      exact ⟨_, g6, fun v z => by rw [d6] at z; cases z⟩
  keep := by
    rintro i h h2 ⟨b1, b2, ⟨c1, c2, b3⟩, ⟨o4, g4, k4, d4⟩, o6, g6, k6, d6⟩ hk2
    exact ⟨hk2 _ (by simp) _ b1, hk2 _ (by simp) _ b2, ⟨c1, c2, hk2 _ (by simp) _ b3⟩, ⟨o4, hk2 _ (by simp) _ g4, k4, d4⟩, o6, hk2 _ (by simp) _ g6, k6, d6⟩
  item := by
    intro X hP hw hK hc i pins s σ H E I hf st hg
    subst hP hw hK
    obtain ⟨hlt, hq⟩ := hg
    obtain ⟨its, rv, htp, hz⟩ := I.tuple hq
    have hn1 : x.cps.size = its.toArray.size := by rw [← hl, rv.length]; simp
    have S := sep_zs hm
    have D1 : Draws X.prog X.w X.A.in1 m [m, a] x.cps.size (fun i v => its.toArray[i]? = some v) (fun i h => h.IsTupleIter m a i ∧ h.IsTuple a its.toArray) := by
      rw [hn1]
      exact Draws.tuple (A := X.A.in1) (I.ok.hd hc) m a (Nat.ne_of_lt hm) its.toArray
    have W := GoesN.ofWalksT (elts := elts) (k := kk) (pos := tpos) (walks_zs (A := X.A) (I.ok.hd hc) S D1 (Draws.text (A := X.A.in1) (I.ok.hd hc) (m + 1) x tx))
    have st0 := st
    obtain ⟨b1, b2, b3, b4, b5⟩ := st0
    refine wpAny_mono (W.goes i s (fun v s2 => ∃ u H', Inv X pins σ H' s2 ∧ L2.RelV u v ∧ (Itz X.K a xs x).yld i H u H' ∧ zsTn m a x tx (i + 1) s2.heap ∧ ∀ b ∈ [m + 4, m + 2, m + 3, m, m + 1], H' b = none) E hlt ⟨b1, b2, b3, ⟨b4, htp⟩, b5⟩ fun v h' tk hy st' hk _ => ?_) (fun r s1 h1 => h1) fun _ _ z => z
    obtain ⟨T, vals, rfl, hT, ⟨y1, y2, hy1, ⟨c, u, hy2, e3⟩, e4⟩, hI⟩ := hy
    subst e3 e4
    have hn : H T = none := I.hok.fresh hT
    have hx' : x.cps.toList[i]? = some c := by rw [Array.getElem?_toList]; exact hy2
    obtain ⟨v1, hv1⟩ : ∃ v1, xs[i]? = some v1 := ⟨xs[i]'(by rw [hl]; exact hlt), List.getElem?_eq_getElem _⟩
    obtain ⟨w1, hw1, rw1⟩ := rv.get hv1
    have ew : w1 = y1 := by
      rw [List.getElem?_toArray, hw1] at hy1
      exact Option.some.inj hy1
    subst ew
    have eit : itsZip xs x i = [v1, .str ⟨#[c]⟩] := by
      show (match xs[i]?, x.cps.toList[i]? with
        | some v, some c => [v, V.str ⟨#[c]⟩]
        | _, _ => []) = _
      rw [hv1, hx']
    obtain ⟨c1, c2, c3, ⟨c4, _⟩, c5⟩ := st'
    refine ⟨.ref T, upd H T (.tup (itsZip xs x i)), I.turnedNew (t' := tk) (ch := [m + 4, m + 2, m + 3, m, m + 1]) (fun b o hb q => hk b o (fun z => hb (wr_zs z)) q) hf hT ⟨?_, [w1, .str ⟨#[c]⟩ u], ?_, hI⟩, rfl, ⟨T, rfl, hn, rfl⟩, ⟨c1, c2, c3, c4, c5⟩, fun b hb => ?_⟩
    · rw [eit, sizeLine_eq]; simp
    · rw [eit]; exact .cons rw1 (.cons ⟨_, rfl⟩ .nil)
    · have hlt : b < s.heap.objs.size := by
        rcases List.mem_cons.mp hb with e | hb
        · exact e ▸ Heap.lt_size b1
        rcases List.mem_cons.mp hb with e | hb
        · exact e ▸ Heap.lt_size b2
        rcases List.mem_cons.mp hb with e | hb
        · obtain ⟨_, _, b3⟩ := b3; exact e ▸ Heap.lt_size b3
        rcases List.mem_cons.mp hb with e | hb
        · obtain ⟨_, b4, _⟩ := b4; exact e ▸ Heap.lt_size b4
        · obtain ⟨_, b5, _⟩ := b5; rw [List.mem_singleton.mp hb]; exact Heap.lt_size b5
      rw [upd_ne (Nat.ne_of_lt (Nat.lt_of_lt_of_le hlt hT))]
      exact (hf b hb).1
  done := by
    intro X hP hw hK hc i pins s σ H E I hf st hg
    subst hP hw hK
    obtain ⟨rfl, hq⟩ := hg
    obtain ⟨its, rv, htp, hz⟩ := I.tuple hq
    have hn1 : x.cps.size = its.toArray.size := by rw [← hl, rv.length]; simp
    have S := sep_zs hm
    have D1 : Draws X.prog X.w X.A.in1 m [m, a] x.cps.size (fun i v => its.toArray[i]? = some v) (fun i h => h.IsTupleIter m a i ∧ h.IsTuple a its.toArray) := by
      rw [hn1]
      exact Draws.tuple (A := X.A.in1) (I.ok.hd hc) m a (Nat.ne_of_lt hm) its.toArray
    have W := GoesN.ofWalksT (elts := elts) (k := kk) (pos := tpos) (walks_zs (A := X.A) (I.ok.hd hc) S D1 (Draws.text (A := X.A.in1) (I.ok.hd hc) (m + 1) x tx))
    obtain ⟨b1, b2, b3, b4, b5⟩ := st
    exact W.stops s (fun s2 => Inv X pins σ H s2) E ⟨b1, b2, b3, ⟨b4, htp⟩, b5⟩ fun h' tk hk _ => I.turnedL (t' := tk) (ch := [m + 4, m + 2, m + 3, m, m + 1]) (fun b o hb q => hk b o (fun z => hb (wr_zs z)) q) hf
  self := fun A i s Q E hst hq => iter_zs hst.1 hq
section
variable {X : Cx}
def iZipS (K : PySem.W.Frag) (ta tk : TA) : TI := fun σ H R => ta σ H fun vs H1 => tk σ H1 fun ks H2 => ks = [.bl true] ∧ ∃ (a : Addr) (xs : List V) (x : Str), vs = [.ref a, .str x] ∧ SqT K H2 a xs ∧ xs.length = x.cps.size ∧ R (Itz K a xs x) H2
theorem pi_zipS {e1 e2 k : Expr} {ta tk : TA} {p pos tpos kpos : Pos} {elts : List Expr} {kk : Nat} (hc : X.calm = true) (hg : Gl X "zip") (hm : X.mg "zip" = none) (ha : PA X [e1, e2] ta) (hk : PK X [⟨some "strict", k, kpos⟩] tk) (hs : starEach [e1, e2] X.env = (false, eval e1 X.env) :: starEach [e2] X.env := by rfl)
    (hplain : ((backTo pos (starEach [e1, e2] X.env)).any (·.1) || (backToKw pos (keywordEach [⟨some "strict", k, kpos⟩] X.env)).any (·.1.isNone)) = false := by rfl) :
    PI X (.Tuple elts kk tpos) (.Call (.Name "zip" p) [e1, e2] [⟨some "strict", k, kpos⟩] pos) (iZipS X.K ta tk) := by
  refine ⟨fun pins s σ H R I h => ?_⟩
  refine wpAny_Call_Name_kw (ld_blt I hg hm boot_zip (cw_tyk rfl ?_ hplain hs))
  refine thn (ha.run pos pins s σ H _ I h) fun us s1 ⟨vs, H1, I1, r1, q1⟩ => ?_
  refine thn (hk.run pos pins s1 σ H1 _ I1 q1) fun ks s2 ⟨zs, H2, I2, rz, e1, a, xs, x, ex, hq, hlen, q⟩ => ?_
  subst e1 ex
  obtain ⟨uk, rfl, ru⟩ := Vals.one rz
  obtain rfl : uk = Value.bool true := ru
  obtain ⟨u1, u2, rfl, ra, rx⟩ := vals2 r1
  obtain rfl : u1 = Value.ref a := ra
  obtain ⟨tx, rfl⟩ := rx
  obtain ⟨its, rv, htp, hz⟩ := I2.tuple hq
  have htl : a < s2.heap.objs.size := by obtain ⟨o, e, _⟩ := htp; exact Heap.lt_size e
  show wpAny _ _ (call (.type "zip") [.ref a, .str x tx] [(Str.ofString "strict", .bool true)]) _ _ _
  refine zs_begins (begins_tuple a its.toArray) (begins_text x tx) htp trivial fun h' hz' hTI hTO g1 g2 hsz hk => ?_
  have I3 : Inv X pins σ H2 { s2 with heap := h' } := I2.kept (t' := s2.toks) hk
  refine iter_zs hz' ?_
  refine ⟨s2.heap.objs.size + 4, [s2.heap.objs.size + 4, s2.heap.objs.size + 2, s2.heap.objs.size + 3, s2.heap.objs.size, s2.heap.objs.size + 1], zsTn s2.heap.objs.size a x tx, _, H2, rfl, I3, turn_zs htl hlen, ⟨hz', hTI, ⟨_, _, hTO⟩, ⟨_, g1, rfl, rfl⟩, ⟨_, g2, rfl, rfl⟩⟩, fun b hb => ?_, q⟩
  have hle : s2.heap.objs.size ≤ b := fp_zs hb
  exact I2.fpOk hle (I2.hok.fresh hle)
end
end Kw
set_option Elab.async false
set_option linter.all false
set_option maxRecDepth 100000
set_option maxHeartbeats 2000000
/-! Rules of the hand layer that it lacks, the eighth part: d.get(k), d written; list(range(a, b, c)). -/
namespace Kw
open PySem PySem.Spec PyProof.Rows L2
section
variable {X : Cx} {o e : Expr} {apos cpos : Pos} {td ty : TE}
def tKGet (K : PySem.W.Frag) (w : World) (td ty : TE) : TE := fun σ H Q => td σ H fun x H1 => ∃ p, x = .ref p ∧ (p == sysModules) = false ∧ (∃ z v, KDct K w p z v) ∧ ty σ H1 fun y H2 => ∃ z v, y = .str z ∧ KDct K w p z v ∧ Q v H2
theorem pe_tabget (ho : PE X o td) (he : PE X e ty) (m : M1 X o "get" apos e cpos) : PE X (.Call (.Attribute o "get" apos) [e] [] cpos) (tKGet X.K X.w td ty) := by
  refine ⟨fun pins s σ H Q I h => ?_⟩
  refine wpAny_Call_method m.base m.few m.line PySem.F.plainAttrs_dict PySem.F.slot_dict_get PySem.F.type_dict_get (thn (ho.run pins s σ H _ I h) fun u s1 ⟨x, H1, I1, rx, p, ex, low, ⟨z0, v0, es0, n0, u00, hl0, hk0, e00, ru0⟩, q1⟩ => ?_)
  subst ex
  obtain rfl : u = Value.ref p := rx
  have hm0 := PySem.W.mapOf_K (prog := X.prog) (w := X.w) I1.kIn hl0 hk0
  obtain ⟨o0, g0, rest0⟩ := id hm0
  refine ⟨hm0.typeIs, fun a e => ?_, ?_⟩
  · cases e
    have g1 := I1.kIn _ _ hl0
    exact ⟨_, g1, rfl⟩
  rw [m.trees]
  refine Calls.callWith_builtin rfl (Calls.evalArgs_plain (Calls.spliced_cons (thn (he.run pins s1 σ H1 _ I1 q1) fun iv s2 ⟨y, H2, I2, ry, z, v, ey, ⟨es, n, u0, hl, hk, e0, ru⟩, q⟩ => Calls.spliced_nil ?_)))
  subst ey
  obtain ⟨t, rfl⟩ := ry
  have hm := PySem.W.mapOf_K (prog := X.prog) (w := X.w) I2.kIn hl hk
  refine call_meetsIn PySem.F.slot_dict_get hm.typeIs PySem.F.entry_dict_get (PySem.F.args_dict_get_2 _ _) (meets_dict_get (strKind X.prog X.w) p (strKind_is X.prog X.w z t) low) ⟨_, hm, ?_⟩
  rw [PySem.W.find_K hl e0]
  exact ⟨v, H2, I2.tok _, ru, q⟩
end
section
variable {X : Cx}
/-- a, a + c, .. (n of them) -/
def rgC (a c : Int) (n : Nat) : List V := (List.range n).map fun i => V.int (a + (i : Nat) * c)
def tLstRg3 (ta : TA) : TE := fun σ H Q => ta σ H fun vs H1 => ∃ (i j c : Int) (n : Nat), vs = [.int i, .int j, .int c] ∧ RgC i j c n ∧ n ≤ 2 ^ 24 ∧ ∀ q, H1 q = none → Q (.ref q) (upd H1 q (.lst (rgC i c n)))
theorem pe_listRg3 {a b c : Expr} {ta : TA} {p pr pos posr : Pos} (hc : X.calm = true) (hg : Gl X "list") (hm : X.mg "list" = none) (hgr : Gl X "range") (hmr : X.mg "range" = none) (ha : PA X [a, b, c] ta)
    (hs : starEach [a, b, c] X.env = (false, eval a X.env) :: starEach [b, c] X.env := by rfl) (hpl : (backTo posr (starEach [b, c] X.env)).any (·.1) = false := by rfl)
    (na : starEach [.Call (.Name "range" pr) [a, b, c] [] posr] X.env = (false, eval (.Call (.Name "range" pr) [a, b, c] [] posr) X.env) :: starEach [] X.env := by rfl) :
    PE X (.Call (.Name "list" p) [.Call (.Name "range" pr) [a, b, c] [] posr] [] pos) (tLstRg3 ta) := by
  refine ⟨fun pins s σ H Q I h => ?_⟩
  refine Call_ (ld_blt I hg hm boot_list (PyProof.Rows.callWith_type1 (args_cons (Call_ (ld_blt I hgr hmr boot_range (PyProof.Rows.callWith_type1 (thn (ha.run posr pins s σ H _ I h) fun us s1 ⟨vs, H1, I1, r1, q1⟩ => ?_) hs hpl))) na) na))
  obtain ⟨i, j, k, n, e, ⟨c0, c1, c2, c3⟩, hn, q⟩ := q1
  subst e
  cases r1 with
  | cons r rr =>
    cases rr with
    | cons r' rr =>
      cases rr with
      | cons r'' rr =>
        cases rr
        obtain ⟨t, rfl⟩ := r
        obtain ⟨t', rfl⟩ := r'
        obtain ⟨t'', rfl⟩ := r''
        refine call_range_3 c0 ?_ (.inl (PyProof.noPylong_small c1))
        refine args_nil ?_
        have I2 : Inv X pins σ H1 { s1 with heap := s1.heap.push { cls := .type "range", data := .fields #[.int i t, .int j t', .int k t''] } } := I1.kept (t' := s1.toks) fun b o e => Heap.get?_push_of_some _ e
        refine call_list_range (n := n) (I2.ok.hd hc) (IsRange.new ..) c2 c3 hn fun h' tk acc c' hk e' hi => ?_
        have hr : Vals (rgC i k n) acc.toList := by
          have e : acc.toList.length = n := by rw [Array.length_toList]; exact hi.1
          unfold rgC
          rw [← e]
          refine vals_of_get acc.toList _ fun j u hj => ?_
          obtain ⟨t, rfl⟩ := hi.2 j u (by rw [← hj, Array.getElem?_toList])
          exact ⟨t, rfl⟩
        refine ⟨.ref _, upd H1 _ (.lst (rgC i k n)), I2.laid hk (Nat.le_refl _) (show ObjOk X.prog X.w _ _ _ (.lst (rgC i k n)) from ⟨?_, acc.toList, c', hr, ?_⟩), rfl, q _ (I2.hok.fresh (Nat.le_refl _))⟩
        · rw [show (rgC i k n).length = n from by unfold rgC; simp, sizeLine_eq]; omega
        · rw [Array.toArray_toList]; exact e'
end
end Kw
set_option Elab.async false
set_option linter.all false
set_option maxRecDepth 100000
set_option maxHeartbeats 2000000
/-! From a def as the top has it to a def as its callers know it. -/
namespace Kw
open PySem PySem.Spec PyProof.Rows L2
structure DefAt (K : PySem.W.Frag) (mg : Str → Option Value) (x : Str) (st : Stmt) (dvs : List V) (kws : List (Str × V)) : Prop where
  ex : ∃ f fd, mg x = some (.ref f) ∧ FunD K x x (defArgs st) (defBody st) (defScope st) dvs kws f fd
structure MethAt (K : PySem.W.Frag) (C : Addr) (x q : Str) (st : Stmt) : Prop where
  ex : ∃ f fd, Meth K C x f ∧ FunD K x q (defArgs st) (defBody st) (defScope st) [] [] f fd
abbrev BindOk (x q : Str) (st : Stmt) (ps : List Str) : Prop := ∀ (kV doc pm : Value) (an : Option Addr) (cdv ct : Value) (us : List Value), us.length = ps.length → bindArgs (PySem.W.fnOf x q (defArgs st) (defBody st) (defScope st) .none kV doc pm an cdv ct) ⟨us, []⟩ = pure (ps.zip us)
section
variable {P : Program} {w : World} {K : PySem.W.Frag} {mg : Str → Option Value} {base : Heap} {x q : Str} {st : Stmt} {N ps : List Str} {k : Nat} {sp : Sp} {C : Addr}
abbrev BodyOk (P : Program) (w : World) (K : PySem.W.Frag) (mg : Str → Option Value) (base : Heap) (q : Str) (st : Stmt) (N : List Str) (k : Nat) (sp : Sp) : Prop :=
  ∀ (f : Addr) (cdv : Value) (A : Around) (outer : List Env) (s : Shared) (H : Hp) (vs : List V) (Q : VK) (E : XK), Room k (A.deeper (envOfC q (defScope st) s.heap.objs.size f cdv)) → sp vs H Q E →
    ∃ t, PSs (cxOf CX0 P w K mg base N q (defScope st) f cdv A outer s H E).nox (defBody st) t ∧ t { nx := fun _ H' => Q .non H', rt := Q } (start N vs) H
theorem fok_of {dvs : List V} {kws : List (Str × V)} {f : Addr} {fd : FuncData} (F : FunD K x q (defArgs st) (defBody st) (defScope st) dvs kws f fd) (S : FnScope N ps (defScope st)) (len : ∀ vs H Q E, sp vs H Q E → vs.length = ps.length)
    (hbody : BodyOk P w K mg base q st N k sp) : FnOk P w K mg base CX0 (k + 1) f fd ps sp := by
  refine F.ok S len fun cdv A outer s H vs Q E hr hsp => ?_
  obtain ⟨t, h, q⟩ := hbody f cdv A outer s H vs Q E hr hsp
  exact ⟨t, h.nox, q⟩
theorem has_of (D : DefAt K mg x st [] []) (S : FnScope N ps (defScope st)) (hb : BindOk x x st ps) (len : ∀ vs H Q E, sp vs H Q E → vs.length = ps.length) (hbody : BodyOk P w K mg base x st N k sp) : Has P w K mg base (k + 1) x sp [] := by
  obtain ⟨f, fd, hm, F⟩ := D.ex
  exact ⟨f, fd, ps, [], hm, F.kp, fok_of F S len hbody, .nil, F.bindsN hb⟩
theorem hasM_of (D : MethAt K C x q st) (S : FnScope N ps (defScope st)) (hb : BindOk x q st ps) (len : ∀ vs H Q E, sp vs H Q E → vs.length = ps.length) (hbody : BodyOk P w K mg base q st N k sp) : HasM P w K mg base (k + 1) C x sp := by
  obtain ⟨f, fd, hm, F⟩ := D.ex
  exact ⟨f, fd, ps, hm, fok_of F S len hbody, F.bindsN hb⟩
/-- a def that is never called -/
theorem has_no (D : DefAt K mg x st [] []) (S : FnScope N ps (defScope st)) (hb : BindOk x x st ps) : Has P w K mg base k x (fun _ _ _ _ => False) [] := by
  obtain ⟨f, fd, hm, F⟩ := D.ex
  refine ⟨f, fd, ps, [], hm, F.kp, ⟨fun _ _ _ _ h => h.elim, fun _ _ _ _ _ _ _ _ _ _ _ _ _ h => h.elim⟩, .nil, F.bindsN hb⟩
theorem hasM_no (D : MethAt K C x q st) (S : FnScope N ps (defScope st)) (hb : BindOk x q st ps) : HasM P w K mg base k C x (fun _ _ _ _ => False) := by
  obtain ⟨f, fd, hm, F⟩ := D.ex
  refine ⟨f, fd, ps, hm, ⟨fun _ _ _ _ h => h.elim, fun _ _ _ _ _ _ _ _ _ _ _ _ _ h => h.elim⟩, F.bindsN hb⟩
theorem Has.mono {j : Nat} {dvs : List V} (h : Has P w K mg base k x sp dvs) (hj : k ≤ j) : Has P w K mg base j x sp dvs := by
  obtain ⟨f, fd, ps, ds, h1, h2, h3, h4, h5⟩ := h.ex
  exact ⟨f, fd, ps, ds, h1, h2, h3.mono hj, h4, h5⟩
theorem HasM.mono {j : Nat} (h : HasM P w K mg base k C x sp) (hj : k ≤ j) : HasM P w K mg base j C x sp := by
  obtain ⟨f, fd, ps, h1, h3, h5⟩ := h.ex
  exact ⟨f, fd, ps, h1, h3.mono hj, h5⟩
theorem Has.imp {sp' : Sp} {dvs : List V} (h : Has P w K mg base k x sp dvs) (hi : ∀ vs H Q E, sp' vs H Q E → sp vs H Q E) : Has P w K mg base k x sp' dvs := by
  obtain ⟨f, fd, ps, ds, h1, h2, h3, h4, h5⟩ := h.ex
  exact ⟨f, fd, ps, ds, h1, h2, h3.imp hi, h4, h5⟩
theorem HasM.imp {sp' : Sp} (h : HasM P w K mg base k C x sp) (hi : ∀ vs H Q E, sp' vs H Q E → sp vs H Q E) : HasM P w K mg base k C x sp' := by
  obtain ⟨f, fd, ps, h1, h3, h5⟩ := h.ex
  exact ⟨f, fd, ps, h1, h3.imp hi, h5⟩
end
/-! ### frames -/
abbrev Ex := Evl.Ex
theorem Ex.rfl' (H : Hp) : Ex H H := fun _ _ h => h
theorem Ex.tr {H H1 H2 : Hp} (a : Ex H H1) (b : Ex H1 H2) : Ex H H2 := fun x o h => b x o (a x o h)
theorem Ex.nw {H H1 : Hp} {p : Addr} {o : HO} (e : Ex H H1) (h : H1 p = none) : Ex H (upd H1 p o) := e.tr (Evl.Ex.new h)
theorem Ex.hd {H H1 : Hp} {p : Addr} {o : HO} (e : Ex H H1) (h : H1 p = none) (g : Addr × HO) : H p = none := Evl.fresh_back e h
theorem Ex.fr {H H1 : Hp} {p : Addr} (e : Ex H H1) (h : H1 p = none) : H p = none := Evl.fresh_back e h
/-- an object that H did not know may change -/
theorem Ex.mu {H H1 : Hp} {p : Addr} {o : HO} (e : Ex H H1) (h : H p = none) : Ex H (upd H1 p o) := Evl.Ex.mut e h
theorem sq_ex {K : PySem.W.Frag} {H H' : Hp} {a : Addr} {xs : List V} (e : Ex H H') (h : SqT K H a xs) : SqT K H' a xs := Evl.ex_t e h
theorem sl_ex {K : PySem.W.Frag} {H H' : Hp} {a : Addr} {xs : List V} (e : Ex H H') (h : SqL K H a xs) : SqL K H' a xs := Evl.ex_l e h
theorem sq_new {K : PySem.W.Frag} {H : Hp} {a p : Addr} {xs : List V} {o : HO} (e : H p = none) (h : SqT K H a xs) : SqT K (upd H p o) a xs := Evl.ex_t (Evl.Ex.new e) h
theorem sl_new {K : PySem.W.Frag} {H : Hp} {a p : Addr} {xs : List V} {o : HO} (e : H p = none) (h : SqL K H a xs) : SqL K (upd H p o) a xs := Evl.ex_l (Evl.Ex.new e) h
theorem sq_up {K : PySem.W.Frag} {H : Hp} {p : Addr} {xs : List V} : SqT K (upd H p (.tup xs)) p xs := Evl.st_of upd_same
theorem sl_up {K : PySem.W.Frag} {H : Hp} {p : Addr} {xs : List V} : SqL K (upd H p (.lst xs)) p xs := Evl.sq_of upd_same
end Kw
namespace Kw
open PySem PySem.Spec PyProof.Rows L2
theorem ite_no {p A B : Prop} [Decidable p] (h : ¬ p) (q : B) : if decide p = true then A else B := by
  rw [decide_eq_false h, if_neg Bool.false_ne_true]; exact q
theorem ite_yes {p A B : Prop} [Decidable p] (h : p) (q : A) : if decide p = true then A else B := by
  rw [decide_eq_true h, if_pos rfl]; exact q
theorem ite_nno {p A B : Prop} [Decidable p] (h : p) (q : B) : if (!decide p) = true then A else B := by
  rw [decide_eq_true h]; exact q
theorem ite_nyes {p A B : Prop} [Decidable p] (h : ¬ p) (q : A) : if (!decide p) = true then A else B := by
  rw [decide_eq_false h]; exact q
end Kw
namespace Kw
open PySem PySem.Spec PyProof.Rows L2
theorem ite2d {p A B : Prop} [Decidable p] (h : p → A) (q : ¬ p → B) : if decide p = true then A else B := by
  by_cases c : p
  · exact ite_yes c (h c)
  · exact ite_no c (q c)
theorem ite2n {p A B : Prop} [Decidable p] (h : ¬ p → A) (q : p → B) : if (!decide p) = true then A else B := by
  by_cases c : p
  · exact ite_nno c (q c)
  · exact ite_nyes c (h c)
theorem kit_ii : kitB "int" "int" = some true := by decide +kernel
theorem kit_ib : kitB "int" "bool" = some false := by decide +kernel
theorem kit_tt : kitB "tuple" "tuple" = some true := by decide +kernel
theorem kit_ss : kitB "str" "str" = some true := by decide +kernel
theorem qb {Q : VK} {H : Hp} {b c : Bool} (k : Q (.bl b) H) (e : b = c) : Q (.bl c) H := e ▸ k
theorem qi {Q : VK} {H : Hp} {b c : Int} (k : Q (.int b) H) (e : b = c) : Q (.int c) H := e ▸ k
end Kw
namespace Kw
open PySem PySem.Spec PyProof.Rows L2
/-- all stands but a list at p -/
def Mv (p : Addr) (H H' : Hp) : Prop := ∀ b o, H b = some o → (b = p → ∀ l, o ≠ .lst l) → H' b = some o
theorem Mv.rf (p : Addr) (H : Hp) : Mv p H H := fun _ _ h _ => h
theorem Mv.tr {p : Addr} {H H1 H2 : Hp} (a : Mv p H H1) (b : Mv p H1 H2) : Mv p H H2 := fun x o h q => b x o (a x o h q) q
theorem Mv.ex {p : Addr} {H H1 : Hp} (a : Ex H H1) : Mv p H H1 := fun x o h _ => a x o h
theorem Mv.up {p : Addr} {H : Hp} {l : List V} {o : HO} (h : H p = some (.lst l)) : Mv p H (upd H p o) := fun x o' h' q => by
  by_cases e : x = p
  · subst e
    rw [h] at h'
    cases h'
    exact absurd rfl (q rfl l)
  · rw [upd_ne e]; exact h'
theorem Mv.nw {p q : Addr} {H H1 : Hp} {o : HO} (a : Mv p H H1) (h : H1 q = none) : Mv p H (upd H1 q o) := a.tr (.ex (Evl.Ex.new h))
theorem Mv.fr {p q : Addr} {H H1 : Hp} {l : List V} (a : Mv p H H1) (hp : H1 p = some (.lst l)) (h : H1 q = none) : H q = none := by
  cases e : H q with
  | none => rfl
  | some o =>
    by_cases c : q = p
    · rw [c, hp] at h; cases h
    · have := a q o e (fun z => absurd z c)
      rw [h] at this; cases this
theorem sq_mv {K : PySem.W.Frag} {p : Addr} {H H' : Hp} {a : Addr} {xs : List V} (e : Mv p H H') (h : SqT K H a xs) : SqT K H' a xs := by
  rcases h with h | h
  · rcases h with h | ⟨o, h⟩
    · exact Or.inl (Or.inl (e _ _ h fun _ l z => by cases z))
    · exact Or.inl (Or.inr ⟨o, e _ _ h fun _ l z => by cases z⟩)
  · exact Or.inr h
/-- a tuple of the program's own -/
def Tp (H : Hp) (a : Addr) (xs : List V) : Prop := H a = some (.tup xs)
theorem tp_ex {H H' : Hp} {a : Addr} {xs : List V} (e : Ex H H') (h : Tp H a xs) : Tp H' a xs := e _ _ h
theorem tp_mv {p : Addr} {H H' : Hp} {a : Addr} {xs : List V} (e : Mv p H H') (h : Tp H a xs) : Tp H' a xs := e _ _ h fun _ l z => by cases z
theorem tp_new {H : Hp} {a p : Addr} {xs : List V} {o : HO} (e : H p = none) (h : Tp H a xs) : Tp (upd H p o) a xs := tp_ex (Evl.Ex.new e) h
theorem tp_up {H : Hp} {p : Addr} {xs : List V} : Tp (upd H p (.tup xs)) p xs := upd_same
theorem tp_lst {H : Hp} {a p : Addr} {xs ys : List V} {o : HO} (e : H p = some (.lst ys)) (h : Tp H a xs) : Tp (upd H p o) a xs := tp_mv (Mv.up e) h
theorem sq_lst {K : PySem.W.Frag} {H : Hp} {a p : Addr} {xs ys : List V} {o : HO} (e : H p = some (.lst ys)) (h : SqT K H a xs) : SqT K (upd H p o) a xs := sq_mv (Mv.up e) h
theorem tp_sq {K : PySem.W.Frag} {H : Hp} {a : Addr} {xs : List V} (h : Tp H a xs) : SqT K H a xs := Evl.st_of h
theorem hu_of {A : Around} {k : Nat} (hr : Room k A) : A.units + 1 < cLine := by
  have := hr.units
  omega
end Kw
namespace Kw
open PySem PySem.Spec PyProof.Rows L2
theorem hu65 {A : Around} {k : Nat} (hr : Room k A) : A.units + 65 < cLine := by
  have := hr.un
  omega
end Kw
namespace Kw
/-- a claim that the walk does not open -/
inductive Here (p : Prop) : Prop where
  | it (h : p)
  | no (h : False)
theorem Here.get {p : Prop} : Here p → p
  | .it h => h
  | .no h => h.elim
end Kw
namespace Kw
open PySem PySem.Spec PyProof.Rows L2
theorem at_c0 {α : Type} (a : α) (l : List α) : atI (a :: l) 0 = some a := atI_nat (j := 0) rfl
theorem at_c {α : Type} {a u : α} {l : List α} {i : Nat} (h : l[i]? = some u) : atI (a :: l) (1 + (i : Int)) = some u := by
  have := atI_nat (xs := a :: l) (j := i + 1) (v := u) (by simpa using h)
  rw [← this]
  congr 1
  omega
end Kw
set_option Elab.async false
set_option linter.all false
set_option maxRecDepth 100000
set_option maxHeartbeats 2000000
namespace Kw
open PySem PySem.Spec PyProof.Rows L2
local macro_rules | `(tactic| walk_at "sq") => `(tactic| repeat (first | assumption | exact sq_up | exact sl_up | refine sq_new (by assumption) ?_ | refine sl_new (by assumption) ?_ | refine sq_ex (by assumption) ?_ | refine sl_ex (by assumption) ?_))
local macro_rules | `(tactic| walk_at "cond") => `(tactic| first | decide | exact Or.inl ⟨by omega, by omega⟩ | exact Or.inr ⟨by omega, by omega⟩ | exact ⟨by omega, by omega⟩ | omega)
local macro_rules | `(tactic| walk_at "rd1") => `(tactic| first
  | refine ⟨_, rfl, ?_⟩
  | refine ⟨_, _, rfl, rfl, ?_⟩
  | refine ⟨_, _, rfl, ?_⟩
  | refine ⟨rfl, ?_⟩
  | (refine ⟨_, _, _, _, rfl, rfl, ?_, ?_, ?_⟩; (· walk_at "sq"); (· rfl))
  | (refine ⟨_, _, rfl, ?_, ?_, ?_⟩; (· walk_at "sq"); (· rfl))
  | refine ⟨by walk_at "cond", ?_⟩)
local macro_rules | `(tactic| walk_at "rd") => `(tactic| repeat walk_at "rd1")

variable {P : Program} {w : World} {K : PySem.W.Frag} {mg : Str → Option Value} {base : Heap} {D : Ad}
def knotV (a b i j : Int) : Int :=
  let one := (a + 48271 * b + 7) % 2147483647
  let two := (one * one + 69621 * i + 1) % 2147483629
  let three := (two * two + 16807 * j + 1) % 2147483587
  (three * three + three) % 2147483579 % 65536
def spKnot : Sp := fun vs H Q _ => ∃ a b i j : Int, vs = [.int a, .int b, .int i, .int j] ∧ Q (.int (knotV a b i j)) H
theorem h_knot (F : DefAt K mg "knot" s_knot [] []) (T : Txt K w mg D) : Has P w K mg base 1 "knot" spKnot [] := by
  refine has_of F sc_knot (fun _ _ _ _ _ _ us hl => match us, hl with | [_, _, _, _], _ => rfl) ?_ ?_
  · rintro _ _ _ _ ⟨a, b, i, j, rfl, _⟩; rfl
  · rintro f cdv A outer s H vs Q E hr ⟨a, b, i, j, rfl, k⟩
    refine ⟨_, pss_cons (ps_set (i := 4) sc_knot.nd rfl (Or.inl rfl) (pe_op op_mod (pe_op op_add (pe_op op_add (pv 0) (pe_op op_mul (pe_int) (pv 1))) (pe_int)) (pe_gi T.FIRST (by rfl))))
      (pss_cons (ps_set (i := 5) sc_knot.nd rfl (Or.inl rfl) (pe_op op_mod (pe_op op_add (pe_op op_add (pe_op op_mul (pv 4) (pv 4)) (pe_op op_mul (pe_int) (pv 2))) (pe_int)) (pe_gi T.SECOND (by rfl))))
      (pss_cons (ps_set (i := 6) sc_knot.nd rfl (Or.inl rfl) (pe_op op_mod (pe_op op_add (pe_op op_add (pe_op op_mul (pv 5) (pv 5)) (pe_op op_mul (pe_int) (pv 3))) (pe_int)) (pe_gi T.THIRD (by rfl))))
      (pss_one (ps_ret (pe_op op_mod (pe_op op_mod (pe_op op_add (pe_op op_mul (pv 6) (pv 6)) (pv 6)) (pe_gi T.LAST (by rfl))) (pe_gi T.MOST (by rfl))))))), ?_⟩
    walk_at "rd"
    exact k

end Kw
set_option Elab.async false
set_option linter.all false
set_option maxRecDepth 100000
set_option maxHeartbeats 2000000
namespace Kw
open PySem PySem.Spec PyProof.Rows L2
local macro_rules | `(tactic| walk_at "sq") => `(tactic| repeat (first | assumption | exact sq_up | exact sl_up | refine sq_new (by assumption) ?_ | refine sl_new (by assumption) ?_ | refine sq_ex (by assumption) ?_ | refine sl_ex (by assumption) ?_))
local macro_rules | `(tactic| walk_at "cond") => `(tactic| first | decide | exact Or.inl ⟨by omega, by omega⟩ | exact Or.inr ⟨by omega, by omega⟩ | exact ⟨by omega, by omega⟩ | omega)
local macro_rules | `(tactic| walk_at "rd1") => `(tactic| first
  | refine ⟨_, rfl, ?_⟩
  | refine ⟨_, _, rfl, rfl, ?_⟩
  | refine ⟨_, _, rfl, ?_⟩
  | refine ⟨rfl, ?_⟩
  | (refine' ⟨_, _, _, _, rfl, rfl, ?h, ?ha, ?q⟩; (case h => walk_at "sq"); (case ha => rfl))
  | (refine' ⟨_, _, rfl, ?h, ?ha, ?q⟩; (case h => walk_at "sq"); (case ha => rfl))
  | (refine' ⟨_, _, rfl, Or.inr ?h, ?q⟩; (case h => walk_at "sq"))
  | (refine' ⟨_, _, rfl, Or.inl ?h, ?q⟩; (case h => walk_at "sq"))
  | refine ⟨_, _, _, _, _, rfl, .ty _, .base (.int _), kit_ty kit_ii, ?_⟩
  | refine ⟨_, _, _, _, _, rfl, .ty _, .base (.int _), kit_ty kit_ib, ?_⟩
  | refine ⟨_, _, _, _, _, rfl, .ty _, .base (.str _), kit_ty kit_ss, ?_⟩
  | with_reducible refine iteT ?_
  | with_reducible refine iteF ?_
  | refine ite_yes (by first | decide | omega) ?_
  | refine ite_no (by first | decide | omega) ?_
  | refine ite_nyes (by first | decide | omega) ?_
  | refine ite_nno (by first | decide | omega) ?_
  | (refine' And.intro ?h ?q; (case h => exact Evl.sz_of (Nat.le_of_ble_eq_true rfl)))
  | refine fun p (hp : (_ : Hp) p = none) => ?_
  | (refine' ⟨_, _, rfl, Or.inr ?h, rfl, rfl, ?q⟩; (case h => walk_at "sq"))
  | (refine' ⟨_, _, rfl, Or.inl ?h, rfl, rfl, ?q⟩; (case h => walk_at "sq"))
  | (refine' And.intro ?h ?q; (case h => walk_at "cond")))
local macro_rules | `(tactic| walk_at "rd") => `(tactic| repeat walk_at "rd1")
local macro_rules | `(tactic| walk_at "rs") => `(tactic| repeat' (first | walk_at "rd1" | refine ite2d (fun h => ?_) (fun h => ?_) | refine ite2n (fun h => ?_) (fun h => ?_) | refine ite2 (fun h => ?_) (fun h => ?_)))
local macro_rules | `(tactic| walk_at "ex") => `(tactic| repeat (first | assumption | exact Ex.rfl' _ | refine Ex.nw ?_ (by assumption) | refine Ex.tr ?_ (by assumption)))

variable {P : Program} {w : World} {K : PySem.W.Frag} {mg : Str → Option Value} {base : Heap} {D : Ad}
def spWhole : Sp := fun vs H Q _ => ∃ a lo hi : Int, vs = [.int a, .int lo, .int hi] ∧ lo ≤ a ∧ a ≤ hi ∧ Q (.bl true) H
theorem h_is_whole (F : DefAt K mg "is_whole" s_is_whole [] []) (T : Txt K w mg D) : Has P w K mg base 1 "is_whole" spWhole [] := by
  refine has_of F sc_is_whole (fun _ _ _ _ _ _ us hl => match us, hl with | [_, _, _], _ => rfl) ?_ ?_
  · rintro _ _ _ _ ⟨a, b, i, rfl, _⟩; rfl
  · rintro f cdv A outer s H vs Q E hr ⟨a, lo, hi, rfl, h1, h2, k⟩
    refine ⟨_, pss_one (ps_ret (pe_and (pe_callB call_isi (by rfl) T.f_isinstance bt_isinstance (pa_cons (pv 0) (pa_cons (pe_bltn (v := .ty "int") (by rfl) T.f_int bt_int rfl) pa_nil))) (pe_and (pe_not (pe_callB call_isi (by rfl) T.f_isinstance bt_isinstance (pa_cons (pv 0) (pa_cons (pe_bltn (v := .ty "bool") (by rfl) T.f_bool bt_bool rfl) pa_nil)))) (pe_one (pe_chain op_le op_le (pv 1) (pv 0) (pv 2)))))), ?_⟩
    walk_at "rd"
    exact qb k (by simp; omega)
def spMustBox (K : PySem.W.Frag) : Sp := fun vs H Q _ => ∃ (p : Addr) (a b c d : Int) (m : V), vs = [.ref p, m] ∧ (m = .non ∨ m = .int 1024) ∧ SqT K H p [.int a, .int b, .int c, .int d] ∧ (-1000000 ≤ a ∧ a ≤ c ∧ c ≤ 1000000 ∧ -1000000 ≤ b ∧ b ≤ d ∧ d ≤ 1000000) ∧ (m = .non ∨ (c - a < 30 ∧ d - b < 30)) ∧ Q .non H
theorem b_must_box (T : Txt K w mg D) : BodyOk P w K mg base "must_box" s_must_box nm_must_box 0 (spMustBox K) := by
  rintro f cdv A outer s H vs Q E hr ⟨p, a, b, c, d, m, rfl, hm, hp, h1, h2, k⟩
  refine ⟨_, pss_cons (ps_asg (pv 0) (pg_tup rfl (pgs_cons (pg_name (i := 2) sc_must_box.nd rfl (Or.inl rfl)) (pgs_cons (pg_name (i := 3) sc_must_box.nd rfl (Or.inl rfl)) (pgs_cons (pg_name (i := 4) sc_must_box.nd rfl (Or.inl rfl)) (pgs_cons (pg_name (i := 5) sc_must_box.nd rfl (Or.inl rfl)) (pgs_nil)))))))
      (pss_cons (ps_if (PW.pt (pw_or (pt_cmpR op_lt (pe_callB (cr_minT rfl) (by rfl) T.f_min bt_min (pa_cons (pv 0) (pa_nil))) (pe_un un_neg (pe_gi T.FAREST (by rfl))) (nomark _)) (pw_or (pt_cmpR op_gt (pe_callB (cr_maxT rfl) (by rfl) T.f_max bt_max (pa_cons (pv 0) (pa_nil))) (pe_gi T.FAREST (by rfl)) (nomark _)) (pw_or (pt_cmpR op_gt (pv 2) (pv 4) (nomark _)) (pw_or1 (pt_cmpR op_gt (pv 3) (pv 5) (nomark _))))))) (pss_never) (pss_nil))
      (pss_one (ps_if (PW.pt (pw_and (pt_cmpR op_notN (pv 1) (pe_non) (nomark _)) (pw_and1 (pt_cmpR op_gt (pe_op op_mul (pe_op op_add (pe_op op_sub (pv 4) (pv 2)) (pe_int)) (pe_op op_add (pe_op op_sub (pv 5) (pv 3)) (pe_int))) (pv 1) (nomark _))))) (pss_never) (pss_nil)))), ?_⟩
  walk_at "rd"
  refine ⟨_, [a, b, c, d], rfl, hp, Nat.succ_pos _, fun m1 hm1 hy1 => ?_⟩
  have hm1' : m1 = a ∨ m1 = b ∨ m1 = c ∨ m1 = d := by simpa using hm1
  walk_at "rd"
  refine ⟨_, [a, b, c, d], rfl, hp, Nat.succ_pos _, fun m2 hm2 hy2 => ?_⟩
  have hm2' : m2 = a ∨ m2 = b ∨ m2 = c ∨ m2 = d := by simpa using hm2
  walk_at "rd"
  rcases hm with rfl | rfl
  · walk_at "rd"
    exact k
  · have h3 : c - a < 30 ∧ d - b < 30 := by rcases h2 with h | h; cases h; exact h
    have h4 : (c - a + 1) * (d - b + 1) ≤ 1024 := by
      have : (c - a + 1) * (d - b + 1) ≤ 30 * 30 := Int.mul_le_mul (by omega) (by omega) (by omega) (by omega)
      omega
    walk_at "rd"
    exact k
def spPt0 : Sp := fun vs H Q _ => ∃ x z : Int, vs = [.int x, .int z] ∧ (-1000000 ≤ x ∧ x ≤ 1000000 ∧ -1000000 ≤ z ∧ z ≤ 1000000) ∧ Q .non H
theorem h_must_point (F : DefAt K mg "must_point" s_must_point [] []) (T : Txt K w mg D) : Has P w K mg base 1 "must_point" spPt0 [] := by
  refine has_of F sc_must_point (fun _ _ _ _ _ _ us hl => match us, hl with | [_, _], _ => rfl) ?_ ?_
  · rintro _ _ _ _ ⟨a, b, rfl, _⟩; rfl
  · rintro f cdv A outer s H vs Q E hr ⟨a, b, rfl, h1, k⟩
    refine ⟨_, pss_one (ps_if (PW.pt (pw_or (pt_cmpR op_gt (pe_callB call_abs (by rfl) T.f_abs bt_abs (pa_cons (pv 0) (pa_nil))) (pe_gi T.FAREST (by rfl)) (nomark _)) (pw_or1 (pt_cmpR op_gt (pe_callB call_abs (by rfl) T.f_abs bt_abs (pa_cons (pv 1) (pa_nil))) (pe_gi T.FAREST (by rfl)) (nomark _))))) (pss_never) (pss_nil)), ?_⟩
    walk_at "rd"
    exact k
/-- a box, a point in it -/
def inBx (a b c d x z : Int) : Bool := decide (a ≤ x ∧ x ≤ c) && decide (b ≤ z ∧ z ≤ d)
def spHolds (K : PySem.W.Frag) : Sp := fun vs H Q _ => ∃ (p q : Addr) (a b c d x z : Int), vs = [.ref p, .ref q] ∧ SqT K H p [.int a, .int b, .int c, .int d] ∧ SqT K H q [.int x, .int z] ∧ Q (.bl (inBx a b c d x z)) H
theorem h_holds (F : DefAt K mg "holds" s_holds [] []) (T : Txt K w mg D) : Has P w K mg base 1 "holds" (spHolds K) [] := by
  refine has_of F sc_holds (fun _ _ _ _ _ _ us hl => match us, hl with | [_, _], _ => rfl) ?_ ?_
  · rintro _ _ _ _ ⟨p, q, a, b, c, d, x, z, rfl, _⟩; rfl
  · rintro f cdv A outer s H vs Q E hr ⟨p, q, a, b, c, d, x, z, rfl, hp, hq, k⟩
    refine ⟨_, pss_cons (ps_asg (pv 0) (pg_tup rfl (pgs_cons (pg_name (i := 2) sc_holds.nd rfl (Or.inl rfl)) (pgs_cons (pg_name (i := 3) sc_holds.nd rfl (Or.inl rfl)) (pgs_cons (pg_name (i := 4) sc_holds.nd rfl (Or.inl rfl)) (pgs_cons (pg_name (i := 5) sc_holds.nd rfl (Or.inl rfl)) (pgs_nil)))))))
      (pss_one (ps_ret (pe_and (pe_chain op_le op_le (pv 2) (pe_ix ix_tup (pv 1) (pe_int) (fun _ _ => rfl)) (pv 4)) (pe_one (pe_chain op_le op_le (pv 3) (pe_ix ix_tup (pv 1) (pe_int) (fun _ _ => rfl)) (pv 5)))))), ?_⟩
    walk_at "rs"
    all_goals exact qb k (by rw [Bool.eq_iff_iff]; simp [inBx]; omega)
def spHasPt (K : PySem.W.Frag) : Sp := fun vs H Q _ => ∃ (p : Addr) (a b c d x z : Int), vs = [.ref p, .int x, .int z] ∧ SqT K H p [.int a, .int b, .int c, .int d] ∧ Q (.bl (inBx a b c d x z)) H
theorem h_has_point (F : DefAt K mg "has_point" s_has_point [] []) (T : Txt K w mg D) : Has P w K mg base 1 "has_point" (spHasPt K) [] := by
  refine has_of F sc_has_point (fun _ _ _ _ _ _ us hl => match us, hl with | [_, _, _], _ => rfl) ?_ ?_
  · rintro _ _ _ _ ⟨p, a, b, c, d, x, z, rfl, _⟩; rfl
  · rintro f cdv A outer s H vs Q E hr ⟨p, a, b, c, d, x, z, rfl, hp, k⟩
    refine ⟨_, pss_one (ps_ret (pe_and (pe_chain op_le op_le (pe_ix ix_tup (pv 0) (pe_int) (fun _ _ => rfl)) (pv 1) (pe_ix ix_tup (pv 0) (pe_int) (fun _ _ => rfl))) (pe_one (pe_chain op_le op_le (pe_ix ix_tup (pv 0) (pe_int) (fun _ _ => rfl)) (pv 2) (pe_ix ix_tup (pv 0) (pe_int) (fun _ _ => rfl)))))), ?_⟩
    walk_at "rs"
    all_goals exact qb k (by rw [Bool.eq_iff_iff]; simp [inBx]; omega)
def atEdge (a b c d x z : Int) : Bool := (decide (x = a) || decide (x = c)) || (decide (z = b) || decide (z = d))
def spAtEdge (K : PySem.W.Frag) : Sp := fun vs H Q _ => ∃ (p q : Addr) (a b c d x z : Int), vs = [.ref p, .ref q] ∧ SqT K H p [.int a, .int b, .int c, .int d] ∧ SqT K H q [.int x, .int z] ∧ ∀ H', Ex H H' → Q (.bl (atEdge a b c d x z)) H'
theorem h_at_edge (F : DefAt K mg "at_edge" s_at_edge [] []) (T : Txt K w mg D) : Has P w K mg base 1 "at_edge" (spAtEdge K) [] := by
  refine has_of F sc_at_edge (fun _ _ _ _ _ _ us hl => match us, hl with | [_, _], _ => rfl) ?_ ?_
  · rintro _ _ _ _ ⟨p, q, a, b, c, d, x, z, rfl, _⟩; rfl
  · rintro f cdv A outer s H vs Q E hr ⟨p, q, a, b, c, d, x, z, rfl, hp, hq, k⟩
    refine ⟨_, pss_cons (ps_asg (pv 0) (pg_tup rfl (pgs_cons (pg_name (i := 2) sc_at_edge.nd rfl (Or.inl rfl)) (pgs_cons (pg_name (i := 3) sc_at_edge.nd rfl (Or.inl rfl)) (pgs_cons (pg_name (i := 4) sc_at_edge.nd rfl (Or.inl rfl)) (pgs_cons (pg_name (i := 5) sc_at_edge.nd rfl (Or.inl rfl)) (pgs_nil)))))))
      (pss_one (ps_ret (pe_or (pe_cmpR op_in_seq (pe_ix ix_tup (pv 1) (pe_int) (fun _ _ => rfl)) (pe_tup (pa_cons (pv 2) (pa_cons (pv 4) (pa_nil)))) rfl) (pe_one (pe_cmpR op_in_seq (pe_ix ix_tup (pv 1) (pe_int) (fun _ _ => rfl)) (pe_tup (pa_cons (pv 3) (pa_cons (pv 5) (pa_nil)))) rfl))))), ?_⟩
    walk_at "rs"
    all_goals refine qb (k _ (by walk_at "ex")) ?_
    all_goals rw [Bool.eq_iff_iff]; simp_all [inV, eqV, atEdge]; try omega
def nearV (t b : Int) : Int := 0 - (b - 2 * t) / (2 * b)
def spNear : Sp := fun vs H Q _ => ∃ t b : Int, vs = [.int t, .int b] ∧ 0 < b ∧ b < 1000000 ∧ Q (.int (nearV t b)) H
theorem h_nearest (F : DefAt K mg "nearest" s_nearest [] []) (T : Txt K w mg D) : Has P w K mg base 1 "nearest" spNear [] := by
  refine has_of F sc_nearest (fun _ _ _ _ _ _ us hl => match us, hl with | [_, _], _ => rfl) ?_ ?_
  · rintro _ _ _ _ ⟨a, b, rfl, _⟩; rfl
  · rintro f cdv A outer s H vs Q E hr ⟨a, b, rfl, h1, h2, k⟩
    refine ⟨_, pss_one (ps_ret (pe_op op_sub (pe_int) (pe_op op_fdiv (pe_op op_sub (pv 1) (pe_op op_mul (pe_int) (pv 0))) (pe_op op_mul (pe_int) (pv 1))))), ?_⟩
    walk_at "rd"
    exact k

end Kw
set_option Elab.async false
set_option linter.all false
set_option maxRecDepth 100000
set_option maxHeartbeats 2000000
namespace Kw
open PySem PySem.Spec PyProof.Rows L2
local macro_rules | `(tactic| walk_at "tp") => `(tactic| repeat (first | assumption | exact tp_up | refine tp_new (by assumption) ?_ | refine tp_lst (by assumption) ?_ | refine tp_ex (by assumption) ?_ | refine tp_mv (by assumption) ?_))
local macro_rules | `(tactic| walk_at "sq") => `(tactic| repeat (first | assumption | exact sq_up | exact sl_up | exact tp_sq (by assumption) | exact Evl.sq_of (by assumption) | refine sq_new (by assumption) ?_ | refine sl_new (by assumption) ?_ | refine sq_lst (by assumption) ?_ | refine sq_ex (by assumption) ?_ | refine sl_ex (by assumption) ?_ | refine sq_mv (by assumption) ?_))
local macro_rules | `(tactic| walk_at "ex") => `(tactic| repeat (first | assumption | exact Ex.rfl' _ | refine Ex.nw ?_ (by assumption) | refine Ex.tr ?_ (by assumption)))
local macro_rules | `(tactic| walk_at "cond") => `(tactic| first | decide | exact Or.inl ⟨by omega, by omega⟩ | exact Or.inr ⟨by omega, by omega⟩ | exact ⟨by omega, by omega⟩ | omega)
local macro_rules | `(tactic| walk_at "rd1") => `(tactic| first
  | refine ⟨_, rfl, ?_⟩
  | refine ⟨_, _, rfl, rfl, ?_⟩
  | refine ⟨_, _, rfl, ?_⟩
  | refine ⟨rfl, ?_⟩
  | (refine' ⟨_, _, _, _, rfl, rfl, ?h, ?ha, ?q⟩; (case h => walk_at "sq"); (case ha => rfl))
  | (refine' ⟨_, _, rfl, ?h, ?ha, ?q⟩; (case h => walk_at "sq"); (case ha => rfl))
  | (refine' ⟨_, _, rfl, Or.inr ?h, ?q⟩; (case h => walk_at "sq"))
  | (refine' ⟨_, _, rfl, Or.inl ?h, ?q⟩; (case h => walk_at "sq"))
  | refine ⟨_, _, _, _, _, rfl, .ty _, .base (.int _), kit_ty kit_ii, ?_⟩
  | refine ⟨_, _, _, _, _, rfl, .ty _, .base (.int _), kit_ty kit_ib, ?_⟩
  | refine ⟨_, _, _, _, _, rfl, .ty _, .base (.str _), kit_ty kit_ss, ?_⟩
  | with_reducible refine iteT ?_
  | with_reducible refine iteF ?_
  | refine ite_yes (by first | decide | omega) ?_
  | refine ite_no (by first | decide | omega) ?_
  | refine ite_nyes (by first | decide | omega) ?_
  | refine ite_nno (by first | decide | omega) ?_
  | (refine' And.intro ?h ?q; (case h => exact Evl.sz_of (Nat.le_of_ble_eq_true rfl)))
  | refine fun p (hp : (_ : Hp) p = none) => ?_
  | (refine' ⟨_, _, rfl, Or.inr ?h, rfl, rfl, ?q⟩; (case h => walk_at "sq"))
  | (refine' ⟨_, _, rfl, Or.inl ?h, rfl, rfl, ?q⟩; (case h => walk_at "sq"))
  | (refine' And.intro ?h ?q; (case h => walk_at "cond")))
local macro_rules | `(tactic| walk_at "rd") => `(tactic| repeat walk_at "rd1")
local macro_rules | `(tactic| walk_at "rs") => `(tactic| repeat' (first | walk_at "rd1" | refine ite2d (fun h => ?_) (fun h => ?_) | refine ite2n (fun h => ?_) (fun h => ?_) | refine ite2 (fun h => ?_) (fun h => ?_)))

variable {P : Program} {w : World} {K : PySem.W.Frag} {mg : Str → Option Value} {base : Heap} {D : Ad}
/-! ### lowest -/
theorem gcd_step {x y : Int} (hx : 0 ≤ x) (hy : 0 < y) : Int.gcd y (x % y) = Int.gcd x y := by
  obtain ⟨a, rfl⟩ := Int.eq_ofNat_of_zero_le hx
  obtain ⟨b, rfl⟩ := Int.eq_ofNat_of_zero_le (Int.le_of_lt hy)
  show Nat.gcd b (a % b) = Nat.gcd a b
  rw [Nat.gcd_comm b, ← Nat.gcd_rec, Nat.gcd_comm]
theorem bits_small {m : Int} (h0 : 0 < m) (h : m < 100000) : (Builtin.Int.intBits m : Int) / 30 = 0 := by
  have : Builtin.Int.intBits m ≤ 17 := intBits_le_iff.mpr (by omega)
  omega
def spLowest : Sp := fun vs H Q _ => ∃ t b : Int, vs = [.int t, .int b] ∧ 0 < b ∧ b < 1000000 ∧ ∀ p H', H p = none → Ex H H' → Tp H' p [.int (t / (Int.gcd t b : Int)), .int (b / (Int.gcd t b : Int))] → Q (.ref p) H'
theorem h_lowest (F : DefAt K mg "lowest" s_lowest [] []) (T : Txt K w mg D) : Has P w K mg base 1 "lowest" spLowest [] := by
  refine has_of F sc_lowest (fun _ _ _ _ _ _ us hl => match us, hl with | [_, _], _ => rfl) ?_ ?_
  · rintro _ _ _ _ ⟨a, b, rfl, _⟩; rfl
  · rintro f cdv A outer s H vs Q E hr ⟨t, b, rfl, h1, h2, k⟩
    refine ⟨_, pss_cons (ps_par (i := 2) (j := 3) (by rfl) sc_lowest.nd rfl rfl (by decide) rfl rfl (pa_cons (pe_callB call_abs (by rfl) T.f_abs bt_abs (pa_cons (pv 0) (pa_nil))) (pa_cons (pv 1) pa_nil)) (by rfl))
      (pss_cons (ps_while PassesOwn.never (pt_cmpR op_ne (pv 3) (pe_int) (nomark _)) (pss_one (ps_par (i := 2) (j := 3) (by rfl) sc_lowest.nd rfl rfl (by decide) rfl rfl (pa_cons (pv 3) (pa_cons (pe_op op_mod (pv 2) (pv 3)) pa_nil)) (by rfl))))
      (pss_one (ps_ret (pe_tup (pa_cons (pe_op op_fdiv (pv 0) (pv 2)) (pa_cons (pe_op op_fdiv (pv 1) (pv 2)) (pa_nil))))))), ?_⟩
    walk_at "rd"
    refine while_by (fun σ H' => Here (H' = H ∧ ∃ x y : Int, σ = [some (.int t), some (.int b), some (.int x), some (.int y)] ∧ 0 ≤ x ∧ 0 ≤ y ∧ 0 < x + y ∧ Int.gcd x y = Int.gcd t b)) (fun σ _ => match σ with | [_, _, _, some (.int y)] => y.toNat | _ => 0) ?_ ?_ ?_
    · refine .it ⟨rfl, _, _, rfl, by split <;> omega, by omega, by split <;> omega, ?_⟩
      split
      · exact Int.neg_gcd
      · rfl
    · rintro σ H' hp
      obtain ⟨rfl, x, y, rfl, hx, hy, hxy, hg⟩ := hp.get
      walk_at "rs"
      · rename_i hn
        have hy0 : y ≠ 0 := fun z => by rw [z] at hn; exact hn rfl
        have hy1 : 0 < y := by omega
        walk_at "rd"
        refine ⟨.it ⟨rfl, y, x % y, rfl, hy, Int.emod_nonneg _ hy0, ?_, ?_⟩, ?_⟩
        · have := Int.emod_nonneg x hy0; omega
        · rw [← hg]; exact gcd_step hx hy1
        · have := Int.emod_lt_of_pos x (show 0 < y by omega)
          have := Int.emod_nonneg x hy0
          show (x % y).toNat < y.toNat
          omega
      · rename_i hn
        have hy0 : y = 0 := by injection hn
        subst hy0
        have e : (Int.gcd t b : Int) = x := by rw [← hg, Int.gcd_zero_right]; omega
        have hle : x ≤ b := by
          rw [← e]
          exact Int.le_of_dvd h1 (Int.gcd_dvd_right ..)
        walk_at "rd"
        rename_i p hp
        refine k p _ hp (by walk_at "ex") ?_
        rw [e]
        exact tp_up
    · rintro σ H Q Q' hq ⟨v, h1, h2, h3⟩
      obtain ⟨b, h4, h5⟩ := h3
      exact ⟨v, h1, h2, b, h4, hq _ _ h5⟩
/-! ### a purse, draws -/
def PurseAt (H : Hp) (p : Addr) (n : Nat) : Prop := ∃ a b c : Int, H p = some (.lst [.int a, .int b, .int c]) ∧ 0 ≤ a ∧ 0 ≤ b ∧ b < 2147483647 ∧ 0 ≤ c ∧ c ≤ (n : Int)
def spMixed : Sp := fun vs H Q _ => ∃ a b : Int, vs = [.int a, .int b] ∧ 0 ≤ b ∧ b < 2 ^ 62 ∧ ∀ r, Q (.int r) H
theorem h_law_mixed (F : DefAt K mg "_law_mixed" s__law_mixed [] []) (T : Txt K w mg D) : Has P w K mg base 1 "_law_mixed" spMixed [] := by
  refine has_of F sc__law_mixed (fun _ _ _ _ _ _ us hl => match us, hl with | [_, _], _ => rfl) ?_ ?_
  · rintro _ _ _ _ ⟨a, b, rfl, _⟩; rfl
  · rintro f cdv A outer s H vs Q E hr ⟨a, b, rfl, h1, h2, k⟩
    refine ⟨_, pss_cons (ps_set (i := 2) sc__law_mixed.nd rfl (Or.inl rfl) (pe_op op_mod (pe_op op_add (pe_op op_add (pe_op op_add (pe_op op_mul (pv 0) (pe_int)) (pe_op op_mulW (pe_op op_mul (pe_int) (pv 1)) (pv 1))) (pv 1)) (pe_int)) (pe_int)))
      (pss_cons (ps_set (i := 2) sc__law_mixed.nd rfl (Or.inl rfl) (pe_op op_mod (pe_op op_add (pe_op op_mul (pv 2) (pv 2)) (pe_int)) (pe_int)))
      (pss_one (ps_ret (pe_op op_mod (pe_op op_mul (pv 2) (pe_int)) (pe_int))))), ?_⟩
    walk_at "rd"
    refine ⟨wide_mul (a := 90) (b := 64) (by omega) (by omega) (by decide) (by decide) (by decide), ?_⟩
    walk_at "rd"
    exact k _
def spAt (K : PySem.W.Frag) : Sp := fun vs H Q _ => ∃ (p : Addr) (ns : List Int) (i : Nat), vs = [.ref p, .int i] ∧ SqL K H p (ns.map V.int) ∧ ∀ v, Q (.int v) H
theorem h_law_at (F : DefAt K mg "_law_at" s__law_at [] []) (T : Txt K w mg D) : Has P w K mg base 1 "_law_at" (spAt K) [] := by
  refine has_of F sc__law_at (fun _ _ _ _ _ _ us hl => match us, hl with | [_, _], _ => rfl) ?_ ?_
  · rintro _ _ _ _ ⟨p, a, b, rfl, _⟩; rfl
  · rintro f cdv A outer s H vs Q E hr ⟨p, ns, i, rfl, h1, k⟩
    refine ⟨_, pss_cons (ps_if (pt_cmpR op_lt (pv 1) (pe_callB call_len_seq (by rfl) T.f_len bt_len (pa_cons (pv 0) (pa_nil))) (nomark _)) (pss_one (ps_ret (pe_ix ix_list (pv 0) (pv 1) (fun _ _ => rfl)))) (pss_nil))
      (pss_one (ps_ret (pe_int))), ?_⟩
    walk_at "rd"
    refine ite2d (fun h => ?_) (fun h => ?_)
    · rw [List.length_map] at h
      have hi : i < ns.length := by omega
      refine ⟨_, rfl, _, rfl, _, _, _, V.int ns[i], rfl, rfl, h1, atI_nat ?_, k _⟩
      rw [List.getElem?_map, List.getElem?_eq_getElem hi]; rfl
    · walk_at "rd"
      exact k _
def spPurse (K : PySem.W.Frag) : Sp := fun vs H Q _ => ∃ (p : Addr) (ns : List Int) (i : Nat), vs = [.ref p, .int i] ∧ SqL K H p (ns.map V.int) ∧ i < 1000 ∧ ∀ q H', H q = none → Ex H H' → PurseAt H' q 1000000 → Q (.ref q) H'
theorem h_law_purse (F : DefAt K mg "_law_purse" s__law_purse [] []) (T : Txt K w mg D) (G_law_at : Has P w K mg base 1 "_law_at" (spAt K) []) : Has P w K mg base 2 "_law_purse" (spPurse K) [] := by
  refine has_of F sc__law_purse (fun _ _ _ _ _ _ us hl => match us, hl with | [_, _], _ => rfl) ?_ ?_
  · rintro _ _ _ _ ⟨p, a, b, rfl, _⟩; rfl
  · rintro f cdv A outer s H vs Q E hr ⟨p, ns, i, rfl, h1, hi, k⟩
    refine ⟨_, pss_cons (ps_set (i := 2) sc__law_purse.nd rfl (Or.inl rfl) (pe_c G_law_at (hr.mono (by decide)) (by rfl) (pa_cons (pv 0) (pa_cons (pv 1) (pa_nil)))))
      (pss_one (ps_ret (pe_lst (pa_cons (pe_op op_mod (pe_callB (call_max2 rfl) (by rfl) T.f_max bt_max (pa_cons (pe_op op_sub (pv 2) (pe_op op_pow (pe_int) (pe_int))) (pa_cons (pe_int) (pa_nil)))) (pe_op op_powW (pe_op op_pow (pe_int) (pe_int)) (pe_int))) (pa_cons (pe_op op_mod (pv 2) (pe_int)) (pa_cons (pe_op op_mul (pe_int) (pv 1)) (pa_nil))))))), ?_⟩
    walk_at "rd"
    refine ⟨p, ns, i, rfl, h1, fun v => ?_⟩
    walk_at "rd"
    have e1 : (10 : Int) ^ Int.toNat 60 = 10 ^ 60 := rfl
    have cp : CPowW (10 ^ Int.toNat 60) 10 := ⟨by decide, by rw [e1]; decide +kernel⟩
    have pp : (0 : Int) < (10 ^ Int.toNat 60) ^ Int.toNat 10 := by decide +kernel
    walk_at "rd"
    rename_i q hq
    refine k q _ hq (by walk_at "ex") ⟨_, _, _, upd_same, ?_, ?_, ?_, ?_, ?_⟩
    · exact Int.emod_nonneg _ (Int.ne_of_gt pp)
    · omega
    · omega
    · omega
    · omega
def spDraw : Sp := fun vs H Q _ => ∃ (p : Addr) (m : Int) (n : Nat), vs = [.ref p, .int m] ∧ PurseAt H p n ∧ n < 2 ^ 60 ∧ 0 < m ∧ m < 100000 ∧ ∀ r H', 0 ≤ r → r < m → PurseAt H' p (n + 1) → Mv p H H' → Q (.int r) H'
theorem h_law_draw (F : DefAt K mg "_law_draw" s__law_draw [] []) (T : Txt K w mg D) (G_law_mixed : Has P w K mg base 1 "_law_mixed" spMixed []) : Has P w K mg base 2 "_law_draw" spDraw [] := by
  refine has_of F sc__law_draw (fun _ _ _ _ _ _ us hl => match us, hl with | [_, _], _ => rfl) ?_ ?_
  · rintro _ _ _ _ ⟨p, a, b, rfl, _⟩; rfl
  · rintro f cdv A outer s H vs Q E hr ⟨p, m, n, rfl, ⟨a, b, c, hp, ha, hb, hb2, hc, hc2⟩, hn, hm, hm2, k⟩
    refine ⟨_, pss_cons (ps_if (pt_cmpR op_gt (pe_ix ix_list (pv 0) (pe_int) (fun _ _ => rfl)) (pe_int) (nomark _)) (pss_cons (ps_set (i := 2) sc__law_draw.nd rfl (Or.inl rfl) (pe_op op_mod (pe_ix ix_list (pv 0) (pe_int) (fun _ _ => rfl)) (pv 1)))
      (pss_cons (ps_asg (pe_op op_fdiv (pe_ix ix_list (pv 0) (pe_int) (fun _ _ => rfl)) (pv 1)) (pg_sub (pv 0) (pe_int) set_list))
      (pss_one (ps_ret (pv 2))))) (pss_nil))
      (pss_cons (ps_set (i := 3) sc__law_draw.nd rfl (Or.inl rfl) (pe_int))
      (pss_cons (ps_for PassesOwn.never rfl (pi_range1 (by rfl) T.f_range (pa_cons (pe_op op_add (pe_int) (pe_op op_fdiv (pe_bits (pv 1)) (pe_int))) (pa_nil))) (pg_name (i := 4) sc__law_draw.nd rfl (Or.inl rfl)) (pss_cons (ps_asg (pe_op op_add (pe_ix ix_list (pv 0) (pe_int) (fun _ _ => rfl)) (pe_int)) (pg_sub (pv 0) (pe_int) set_list))
      (pss_one (ps_set (i := 3) sc__law_draw.nd rfl (Or.inl rfl) (pe_op op_add (pe_op op_mul (pv 3) (pe_int)) (pe_c G_law_mixed (hr.mono (by decide)) (by rfl) (pa_cons (pe_ix ix_list (pv 0) (pe_int) (fun _ _ => rfl)) (pa_cons (pe_ix ix_list (pv 0) (pe_int) (fun _ _ => rfl)) (pa_nil)))))))))
      (pss_one (ps_ret (pe_op op_mod (pv 3) (pv 1)))))), ?_⟩
    walk_at "rd"
    refine ite2d (fun h => ?_) (fun h => ?_)
    · walk_at "rd"
      exact k _ _ (Int.emod_nonneg _ (by omega)) (Int.emod_lt_of_pos _ hm) ⟨a / m, b, c, upd_same, Int.ediv_nonneg ha (by omega), hb, hb2, hc, by omega⟩ (Mv.up hp)
    · have hbt := bits_small hm hm2
      walk_at "rd"
      refine for_range (fun i σ H' => Here (∃ c' z : Int, ∃ v, σ = [some (.ref p), some (.int m), none, some (.int z), v] ∧ H' p = some (.lst [.int a, .int b, .int c']) ∧ 0 ≤ c' ∧ c' ≤ (n : Int) + i ∧ Mv p H H')) (.it ⟨c, 0, none, rfl, hp, hc, by omega, Mv.rf _ _⟩) ?_ ?_
      · intro i σ H' hi hh
        obtain ⟨c', z, v, rfl, hp', h0, h1, hmv⟩ := hh.get
        walk_at "rd"
        intro r
        walk_at "rd"
        exact .it ⟨c' + 1, _, _, rfl, upd_same, by omega, by omega, hmv.tr (Mv.up hp')⟩
      · intro σ H' hh
        obtain ⟨c', z, v, rfl, hp', h0, h1, hmv⟩ := hh.get
        walk_at "rd"
        exact k _ _ (Int.emod_nonneg _ (by omega)) (Int.emod_lt_of_pos _ hm) ⟨a, b, c', hp', ha, hb, hb2, h0, by omega⟩ hmv
theorem purse_new {H : Hp} {p q : Addr} {n : Nat} {o : HO} (h : PurseAt H p n) (hq : H q = none) : PurseAt (upd H q o) p n := by
  obtain ⟨a, b, c, h1, h2⟩ := h
  exact ⟨a, b, c, by rw [upd_ne (ne_of_none h1 hq)]; exact h1, h2⟩
theorem purse_ne {H : Hp} {p q : Addr} {n : Nat} (h : PurseAt H p n) (hq : H q = none) : q ≠ p := by
  obtain ⟨a, b, c, h1, h2⟩ := h
  exact (ne_of_none h1 hq).symm
theorem purse_fr {H H' : Hp} {p q : Addr} {n : Nat} (h : PurseAt H' p n) (m : Mv p H H') (hq : H' q = none) : H q = none := by
  obtain ⟨a, b, c, h1, h2⟩ := h
  exact m.fr h1 hq
theorem purse_mono {H : Hp} {p : Addr} {n k : Nat} (h : PurseAt H p n) (hk : n ≤ k) : PurseAt H p k := by
  obtain ⟨a, b, c, h1, h2, h3, h4, h5, h6⟩ := h
  exact ⟨a, b, c, h1, h2, h3, h4, h5, by omega⟩
theorem purse_ex {H H' : Hp} {p : Addr} {n : Nat} (h : PurseAt H p n) (e : Ex H H') : PurseAt H' p n := by
  obtain ⟨a, b, c, h1, h2⟩ := h
  exact ⟨a, b, c, e _ _ h1, h2⟩
theorem pick {ns : List Int} {r : Int} (h0 : 0 ≤ r) (h1 : r < ns.length) : ∃ v, v ∈ ns ∧ atI (ns.map V.int) r = some (.int v) := by
  obtain ⟨i, rfl⟩ := Int.eq_ofNat_of_zero_le h0
  have hi : i < ns.length := by omega
  exact ⟨ns[i], List.getElem_mem hi, atI_nat (by rw [List.getElem?_map, List.getElem?_eq_getElem hi]; rfl)⟩
def spBox : Sp := fun vs H Q _ => ∃ (p : Addr) (n : Nat), vs = [.ref p, .int 12] ∧ PurseAt H p n ∧ n < 2 ^ 50 ∧ ∀ q H' (a b c d : Int), PurseAt H' p (n + 4) → Mv p H H' → H q = none → Tp H' q [.int a, .int b, .int c, .int d] → -1000000 ≤ a → a ≤ c → c ≤ a + 11 → c ≤ 999999 → -1000000 ≤ b → b ≤ d → d ≤ b + 11 → d ≤ 999999 → Q (.ref q) H'
theorem h_law_box (F : DefAt K mg "_law_box" s__law_box [] []) (T : Txt K w mg D) (G_law_draw : Has P w K mg base 2 "_law_draw" spDraw []) : Has P w K mg base 3 "_law_box" spBox [] := by
  refine has_of F sc__law_box (fun _ _ _ _ _ _ us hl => match us, hl with | [_, _], _ => rfl) ?_ ?_
  · rintro _ _ _ _ ⟨p, n, rfl, _⟩; rfl
  · rintro f cdv A outer s H vs Q E hr ⟨p, n, rfl, hp, hn, k⟩
    refine ⟨_, pss_cons (ps_set (i := 2) sc__law_box.nd rfl (Or.inl rfl) (pe_ix ix_list (pe_lst (pa_cons (pe_int) (pa_cons (pe_un un_neg (pe_int)) (pa_cons (pe_op op_sub (pe_int) (pv 1)) (pa_cons (pe_un un_neg (pe_int)) (pa_cons (pe_int) (pa_cons (pe_un un_neg (pe_int)) (pa_nil)))))))) (pe_c G_law_draw (hr.mono (by decide)) (by rfl) (pa_cons (pv 0) (pa_cons (pe_int) (pa_nil)))) (fun _ _ => rfl)))
      (pss_cons (ps_set (i := 3) sc__law_box.nd rfl (Or.inl rfl) (pe_ix ix_list (pe_lst (pa_cons (pe_int) (pa_cons (pe_un un_neg (pe_int)) (pa_cons (pe_op op_sub (pe_int) (pv 1)) (pa_cons (pe_un un_neg (pe_int)) (pa_cons (pe_int) (pa_cons (pe_un un_neg (pe_int)) (pa_nil)))))))) (pe_c G_law_draw (hr.mono (by decide)) (by rfl) (pa_cons (pv 0) (pa_cons (pe_int) (pa_nil)))) (fun _ _ => rfl)))
      (pss_one (ps_ret (pe_tup (pa_cons (pv 2) (pa_cons (pv 3) (pa_cons (pe_op op_add (pv 2) (pe_c G_law_draw (hr.mono (by decide)) (by rfl) (pa_cons (pv 0) (pa_cons (pv 1) (pa_nil))))) (pa_cons (pe_op op_add (pv 3) (pe_c G_law_draw (hr.mono (by decide)) (by rfl) (pa_cons (pv 0) (pa_cons (pv 1) (pa_nil))))) (pa_nil))))))))), ?_⟩
    walk_at "rd"
    rename_i l hl
    refine ⟨p, 6, n, rfl, purse_new hp hl, by omega, by omega, by omega, fun r H1 r0 r1 hp1 hm1 => ?_⟩
    have el := hm1 l _ upd_same fun e => absurd e (purse_ne hp hl)
    obtain ⟨x, hx, ex⟩ := pick (ns := [0, -7, 1000000 - 12, -1000000, 31, -16]) r0 r1
    have hx' : x = 0 ∨ x = -7 ∨ x = 999988 ∨ x = -1000000 ∨ x = 31 ∨ x = -16 := by simpa using hx
    refine ⟨_, _, _, _, rfl, rfl, Evl.sq_of el, ex, ?_⟩
    have m1 : Mv p H H1 := ((Mv.rf p H).nw hl).tr hm1
    walk_at "rd"
    rename_i l2 hl2
    refine ⟨p, 6, n + 1, rfl, purse_new hp1 hl2, by omega, by omega, by omega, fun r' H2 r0' r1' hp2 hm2 => ?_⟩
    have el2 := hm2 l2 _ upd_same fun e => absurd e (purse_ne hp1 hl2)
    obtain ⟨z, hz, ez⟩ := pick (ns := [0, -3, 1000000 - 12, -1000000, 17, -16]) r0' r1'
    have hz' : z = 0 ∨ z = -3 ∨ z = 999988 ∨ z = -1000000 ∨ z = 17 ∨ z = -16 := by simpa using hz
    refine ⟨_, _, _, _, rfl, rfl, Evl.sq_of el2, ez, ?_⟩
    have m2 : Mv p H H2 := (m1.nw hl2).tr hm2
    walk_at "rd"
    refine ⟨p, 12, n + 2, rfl, hp2, by omega, by omega, by omega, fun u H3 u0 u1 hp3 hm3 => ?_⟩
    walk_at "rd"
    refine ⟨p, 12, n + 3, rfl, hp3, by omega, by omega, by omega, fun u' H4 u0' u1' hp4 hm4 => ?_⟩
    walk_at "rd"
    rename_i t ht
    have m4 : Mv p H H4 := (m2.tr hm3).tr hm4
    exact k t _ x z _ _ (purse_new hp4 ht) (m4.nw ht) (purse_fr hp4 m4 ht) tp_up (by omega) (by omega) (by omega) (by omega) (by omega) (by omega) (by omega) (by omega)
def spSpot (K : PySem.W.Frag) : Sp := fun vs H Q _ => ∃ (p x : Addr) (n : Nat) (a b c d : Int), vs = [.ref p, .ref x] ∧ PurseAt H p n ∧ n < 2 ^ 50 ∧ SqT K H x [.int a, .int b, .int c, .int d] ∧ a ≤ c ∧ c < a + 1000 ∧ b ≤ d ∧ d < b + 1000 ∧
  ∀ q H' (x z : Int), PurseAt H' p (n + 2) → Mv p H H' → H q = none → Tp H' q [.int x, .int z] → a ≤ x → x ≤ c → b ≤ z → z ≤ d → Q (.ref q) H'
theorem h_law_spot (F : DefAt K mg "_law_spot" s__law_spot [] []) (T : Txt K w mg D) (G_law_draw : Has P w K mg base 2 "_law_draw" spDraw []) : Has P w K mg base 3 "_law_spot" (spSpot K) [] := by
  refine has_of F sc__law_spot (fun _ _ _ _ _ _ us hl => match us, hl with | [_, _], _ => rfl) ?_ ?_
  · rintro _ _ _ _ ⟨p, x, n, a, b, c, d, rfl, _⟩; rfl
  · rintro f cdv A outer s H vs Q E hr ⟨p, x, n, a, b, c, d, rfl, hp, hn, hx, h1, h2, h3, h4, k⟩
    refine ⟨_, pss_one (ps_ret (pe_tup (pa_cons (pe_op op_add (pe_ix ix_tup (pv 1) (pe_int) (fun _ _ => rfl)) (pe_c G_law_draw (hr.mono (by decide)) (by rfl) (pa_cons (pv 0) (pa_cons (pe_op op_add (pe_op op_sub (pe_ix ix_tup (pv 1) (pe_int) (fun _ _ => rfl)) (pe_ix ix_tup (pv 1) (pe_int) (fun _ _ => rfl))) (pe_int)) (pa_nil))))) (pa_cons (pe_op op_add (pe_ix ix_tup (pv 1) (pe_int) (fun _ _ => rfl)) (pe_c G_law_draw (hr.mono (by decide)) (by rfl) (pa_cons (pv 0) (pa_cons (pe_op op_add (pe_op op_sub (pe_ix ix_tup (pv 1) (pe_int) (fun _ _ => rfl)) (pe_ix ix_tup (pv 1) (pe_int) (fun _ _ => rfl))) (pe_int)) (pa_nil))))) (pa_nil))))), ?_⟩
    walk_at "rd"
    refine ⟨p, c - a + 1, n, rfl, hp, by omega, by omega, by omega, fun u H3 u0 u1 hp3 hm3 => ?_⟩
    walk_at "rd"
    refine ⟨p, d - b + 1, n + 1, rfl, hp3, by omega, by omega, by omega, fun u' H4 u0' u1' hp4 hm4 => ?_⟩
    walk_at "rd"
    rename_i t ht
    have m4 : Mv p H H4 := hm3.tr hm4
    exact k t _ _ _ (purse_new hp4 ht) (m4.nw ht) (purse_fr hp4 m4 ht) tp_up (by omega) (by omega) (by omega) (by omega)

end Kw
set_option Elab.async false
set_option linter.all false
set_option maxRecDepth 100000
set_option maxHeartbeats 2000000
/-! Loops by an invariant, over the walks of the own rules. -/
namespace Kw
open PySem PySem.Spec PyProof.Rows L2
theorem for_itn {n : Nat} {its : Nat → List V} {g : TG} {tb : TS} {D : Ends} {σ : L2.St} {H : Hp} (Pv : Nat → L2.St → Hp → Prop) (h0 : Pv 0 σ H)
    (hs : ∀ i σ H T, i < n → Pv i σ H → H T = none → g (.ref T) σ (upd H T (.tup (its i))) fun σ2 H2 => tb { D with nx := Pv (i + 1), ct := Pv (i + 1), bk := D.nx } σ2 H2) (hd : ∀ σ H, Pv n σ H → D.nx σ H) :
    ∃ W : Nat → Nat → L2.St → Hp → Prop, (∃ m, W 0 m σ H) ∧ ∀ i m σ H, W i m σ H →
      ((Itn n its).stop i H ∧ D.nx σ H) ∨ ((Itn n its).go i H ∧ ∃ N : L2.St → Hp → Prop, (∀ σ' H', N σ' H' → ∃ m', m' < m ∧ W (i + 1) m' σ' H') ∧ ∀ x H', (Itn n its).yld i H x H' → g x σ H' fun σ2 H2 => tb { D with nx := N, ct := N, bk := D.nx } σ2 H2) := by
  refine ⟨fun i m σ H => m = n - i ∧ i ≤ n ∧ Pv i σ H, ⟨n, by simp, Nat.zero_le _, h0⟩, ?_⟩
  rintro i m σ H ⟨rfl, hi, p⟩
  by_cases hlt : i < n
  · refine .inr ⟨hlt, Pv (i + 1), fun σ' H' p' => ⟨n - (i + 1), by omega, rfl, hlt, p'⟩, ?_⟩
    rintro x H' ⟨T, rfl, hT, rfl⟩
    exact hs i σ H T hlt p hT
  · have e : i = n := by omega
    subst e
    exact .inl ⟨rfl, hd σ H p⟩
theorem lc_itz {K : PySem.W.Frag} {a : Addr} {xs : List V} {z : Str} {g : TG} {tt : TT} {te : TE} {vs : List Nat} {σ : L2.St} {H1 : Hp} {D : Addr} {Qd : Hp → Prop} (Pv : Nat → Hp → Prop) (h0 : Pv 0 (upd H1 D (.lst []))) (hl : ∀ i H, i ≤ z.cps.size → Pv i H → SqT K H a xs)
    (hs : ∀ i H T, i < z.cps.size → Pv i H → H T = none → g (.ref T) (wipe σ vs) (upd H T (.tup (itsZip xs z i))) fun σ2 H2 => wipe σ2 vs = wipe σ vs ∧ tt σ2 H2 fun b H3 =>
      if b = true then te σ2 H3 fun y H4 => ∃ acc, H4 D = some (.lst acc) ∧ acc.length < sizeLine ∧ Pv (i + 1) (upd H4 D (.lst (acc ++ [y]))) else Pv (i + 1) H3) (hd : ∀ H, Pv z.cps.size H → Qd H) :
    ∃ W : Nat → Nat → Hp → Prop, (∃ m, W 0 m (upd H1 D (.lst []))) ∧ ∀ i m H, W i m H →
      ((Itz K a xs z).stop i H ∧ Qd H) ∨ ((Itz K a xs z).go i H ∧ ∃ Nx : Hp → Prop, (∀ H', Nx H' → ∃ m', m' < m ∧ W (i + 1) m' H') ∧ ∀ x H', (Itz K a xs z).yld i H x H' → g x (wipe σ vs) H' fun σ2 H2 => wipe σ2 vs = wipe σ vs ∧ tt σ2 H2 fun b H3 =>
        if b = true then te σ2 H3 fun y H4 => ∃ acc, H4 D = some (.lst acc) ∧ acc.length < sizeLine ∧ Nx (upd H4 D (.lst (acc ++ [y]))) else Nx H3) := by
  refine ⟨fun i m H => m = z.cps.size - i ∧ i ≤ z.cps.size ∧ Pv i H, ⟨z.cps.size, by simp, Nat.zero_le _, h0⟩, ?_⟩
  rintro i m H ⟨rfl, hi, p⟩
  have q := hl i H hi p
  by_cases hlt : i < z.cps.size
  · refine .inr ⟨⟨hlt, q⟩, Pv (i + 1), fun H' p' => ⟨z.cps.size - (i + 1), by omega, rfl, hlt, p'⟩, ?_⟩
    rintro x H' ⟨T, rfl, hT, rfl⟩
    exact hs i H T hlt p hT
  · have e : i = z.cps.size := by omega
    subst e
    exact .inl ⟨⟨rfl, q⟩, hd H p⟩
end Kw
set_option Elab.async false
set_option linter.all false
set_option maxRecDepth 100000
set_option maxHeartbeats 2000000
/-! Blocks by an invariant: one lemma a walk, whatever the turn asks (G). -/
namespace Kw
open PySem PySem.Spec PyProof.Rows L2
/-- the shape of a block's loop -/
abbrev LW (J : It) (H1 : Hp) (Qd : Hp → Prop) (G : V → Hp → (Hp → Prop) → Prop) : Prop := ∃ W : Nat → Nat → Hp → Prop, (∃ m, W 0 m H1) ∧ ∀ i m H, W i m H →
  (J.stop i H ∧ Qd H) ∨ (J.go i H ∧ ∃ Nx : Hp → Prop, (∀ H', Nx H' → ∃ m', m' < m ∧ W (i + 1) m' H') ∧ ∀ x H', J.yld i H x H' → G x H' Nx)
theorem lw_of {J : It} {H1 : Hp} {Qd : Hp → Prop} {G : V → Hp → (Hp → Prop) → Prop} (n : Nat) (Pv : Nat → Hp → Prop) (h0 : Pv 0 H1) (hgo : ∀ i H, i < n → Pv i H → J.go i H) (hstop : ∀ H, Pv n H → J.stop n H) (hs : ∀ i x H H', i < n → Pv i H → J.yld i H x H' → G x H' (Pv (i + 1))) (hd : ∀ H, Pv n H → Qd H) : LW J H1 Qd G := by
  refine ⟨fun i m H => m = n - i ∧ i ≤ n ∧ Pv i H, ⟨n, by simp, Nat.zero_le _, h0⟩, ?_⟩
  rintro i m H ⟨rfl, hi, p⟩
  by_cases hlt : i < n
  · exact .inr ⟨hgo i H hlt p, Pv (i + 1), fun H' p' => ⟨n - (i + 1), by omega, rfl, hlt, p'⟩, fun x H' y => hs i x H H' hlt p y⟩
  · have e : i = n := by omega
    subst e
    exact .inl ⟨hstop H p, hd H p⟩
theorem lw_tup {K : PySem.W.Frag} {a : Addr} {xs : List V} {H1 : Hp} {Qd : Hp → Prop} {G : V → Hp → (Hp → Prop) → Prop} (Pv : Nat → Hp → Prop) (h0 : Pv 0 H1) (hl : ∀ i H, i ≤ xs.length → Pv i H → SqT K H a xs) (hs : ∀ i x H, xs[i]? = some x → Pv i H → G x H (Pv (i + 1))) (hd : ∀ H, Pv xs.length H → Qd H) : LW (Itt K a) H1 Qd G :=
  lw_of xs.length Pv h0 (fun i H h p => ⟨xs, xs[i], hl i H (Nat.le_of_lt h) p, by simp [h]⟩) (fun H p => ⟨xs, hl _ H (Nat.le_refl _) p, Nat.le_refl _⟩) (fun i x H H' h p y => by obtain ⟨e, y⟩ := y; subst e; exact hs i x _ (y xs (hl i _ (Nat.le_of_lt h) p)) p) hd
theorem lw_list {K : PySem.W.Frag} {a : Addr} {xs : List V} {H1 : Hp} {Qd : Hp → Prop} {G : V → Hp → (Hp → Prop) → Prop} (Pv : Nat → Hp → Prop) (h0 : Pv 0 H1) (hl : ∀ i H, i ≤ xs.length → Pv i H → SqL K H a xs) (hs : ∀ i x H, xs[i]? = some x → Pv i H → G x H (Pv (i + 1))) (hd : ∀ H, Pv xs.length H → Qd H) : LW (Itl K a) H1 Qd G :=
  lw_of xs.length Pv h0 (fun i H h p => ⟨xs, xs[i], hl i H (Nat.le_of_lt h) p, by simp [h]⟩) (fun H p => ⟨xs, hl _ H (Nat.le_refl _) p, Nat.le_refl _⟩) (fun i x H H' h p y => by obtain ⟨e, y⟩ := y; subst e; exact hs i x _ (y xs (hl i _ (Nat.le_of_lt h) p)) p) hd
theorem lw_range {lo : Int} {n : Nat} {H1 : Hp} {Qd : Hp → Prop} {G : V → Hp → (Hp → Prop) → Prop} (Pv : Nat → Hp → Prop) (h0 : Pv 0 H1) (hs : ∀ i H, i < n → Pv i H → G (.int (lo + i)) H (Pv (i + 1))) (hd : ∀ H, Pv n H → Qd H) : LW (Itr lo n) H1 Qd G :=
  lw_of n Pv h0 (fun i H h p => h) (fun H p => Nat.le_refl _) (fun i x H H' h p y => by obtain ⟨e, y⟩ := y; subst e y; exact hs i _ h p) hd
/-- the keys of a locked dict -/
theorem lw_keys {d : Addr} {o : Obj} {kvs : List (List Key × V)} {H1 : Hp} {Qd : Hp → Prop} {G : V → Hp → (Hp → Prop) → Prop} (Pv : Nat → Hp → Prop) (h0 : Pv 0 H1) (hl : ∀ i H, i ≤ kvs.length → Pv i H → H d = some (.frz o (.dT kvs)))
    (hs : ∀ i k v q H, kvs[i]? = some (k, v) → H q = some (.tup (k.map kV)) → Pv i H → G (.ref q) H (Pv (i + 1))) (hd : ∀ H, Pv kvs.length H → Qd H) : LW (Itkt d o kvs) H1 Qd G :=
  lw_of kvs.length Pv h0 (fun i H h p => ⟨hl i H (Nat.le_of_lt h) p, h⟩) (fun H p => ⟨hl _ H (Nat.le_refl _) p, Nat.le_refl _⟩) (fun i x H H' h p y => by obtain ⟨e, k, v, q, h1, h2, h3⟩ := y; subst e h2; exact hs i k v q _ h1 h3 p) hd
/-- the values of a locked dict -/
theorem lw_vals {d : Addr} {o : Obj} {kvs : List (List Key × V)} {H1 : Hp} {Qd : Hp → Prop} {G : V → Hp → (Hp → Prop) → Prop} (Pv : Nat → Hp → Prop) (h0 : Pv 0 H1) (hl : ∀ i H, i ≤ kvs.length → Pv i H → H d = some (.frz o (.dT kvs)))
    (hs : ∀ i k v H, kvs[i]? = some (k, v) → Pv i H → G v H (Pv (i + 1))) (hd : ∀ H, Pv kvs.length H → Qd H) : LW (Itdt d o kvs) H1 Qd G :=
  lw_of kvs.length Pv h0 (fun i H h p => ⟨hl i H (Nat.le_of_lt h) p, h⟩) (fun H p => ⟨hl _ H (Nat.le_refl _) p, Nat.le_refl _⟩) (fun i x H H' h p y => by obtain ⟨e, k, h1⟩ := y; subst e; exact hs i k x _ h1 p) hd
end Kw
set_option Elab.async false
set_option linter.all false
set_option maxRecDepth 100000
set_option maxHeartbeats 2000000
namespace Kw
open PySem PySem.Spec PyProof.Rows L2
local macro_rules | `(tactic| walk_at "tp") => `(tactic| repeat (first | assumption | exact tp_up | refine tp_new (by assumption) ?_ | refine tp_lst (by assumption) ?_ | refine tp_ex (by assumption) ?_ | refine tp_mv (by assumption) ?_))
local macro_rules | `(tactic| walk_at "sq") => `(tactic| repeat (first | assumption | exact sq_up | exact sl_up | exact tp_sq (by assumption) | exact Evl.sq_of (by assumption) | refine sq_new (by assumption) ?_ | refine sl_new (by assumption) ?_ | refine sq_lst (by assumption) ?_ | refine sq_ex (by assumption) ?_ | refine sl_ex (by assumption) ?_ | refine sq_mv (by assumption) ?_))
local macro_rules | `(tactic| walk_at "ex") => `(tactic| repeat (first | assumption | exact Ex.rfl' _ | refine Ex.nw ?_ (by assumption) | refine Ex.tr ?_ (by assumption)))
local macro_rules | `(tactic| walk_at "cond") => `(tactic| first | decide | exact Or.inl ⟨by omega, by omega⟩ | exact Or.inr ⟨by omega, by omega⟩ | exact ⟨by omega, by omega⟩ | omega)
local macro_rules | `(tactic| walk_at "rd1") => `(tactic| first
  | refine ⟨_, rfl, ?_⟩
  | refine ⟨_, _, rfl, rfl, ?_⟩
  | refine ⟨_, _, rfl, ?_⟩
  | refine ⟨rfl, ?_⟩
  | refine ⟨_, _, _, rfl, ?_⟩
  | (refine' ⟨_, _, _, _, rfl, rfl, ?h, ?ha, ?q⟩; (case h => walk_at "sq"); (case ha => first | rfl | exact at_c0 _ _))
  | (refine' ⟨_, _, rfl, ?h, ?ha, ?q⟩; (case h => walk_at "sq"); (case ha => rfl))
  | (refine' ⟨_, _, rfl, Or.inr ?h, ?q⟩; (case h => walk_at "sq"))
  | (refine' ⟨_, _, rfl, Or.inl ?h, ?q⟩; (case h => walk_at "sq"))
  | refine ⟨_, _, _, _, _, rfl, .ty _, .base (.int _), kit_ty kit_ii, ?_⟩
  | refine ⟨_, _, _, _, _, rfl, .ty _, .base (.int _), kit_ty kit_ib, ?_⟩
  | refine ⟨_, _, _, _, _, rfl, .ty _, .base (.str _), kit_ty kit_ss, ?_⟩
  | refine ⟨_, _, _, _, _, rfl, .ty _, .base (.tup (by assumption)), kit_ty kit_tt, ?_⟩
  | with_reducible refine iteT ?_
  | with_reducible refine iteF ?_
  | refine ite_yes (by first | decide | omega) ?_
  | refine ite_no (by first | decide | omega) ?_
  | refine ite_nyes (by first | decide | omega) ?_
  | refine ite_nno (by first | decide | omega) ?_
  | (refine' And.intro ?h ?q; (case h => exact Evl.sz_of (Nat.le_of_ble_eq_true rfl)))
  | refine fun p (hp : (_ : Hp) p = none) => ?_
  | (refine' ⟨_, _, rfl, Or.inr ?h, rfl, rfl, ?q⟩; (case h => walk_at "sq"))
  | (refine' ⟨_, _, rfl, Or.inl ?h, rfl, rfl, ?q⟩; (case h => walk_at "sq"))
  | (refine' And.intro ?h ?q; (case h => walk_at "cond")))
local macro_rules | `(tactic| walk_at "rd") => `(tactic| repeat walk_at "rd1")
local macro_rules | `(tactic| walk_at "rs") => `(tactic| repeat' (first | walk_at "rd1" | refine ite2d (fun h => ?_) (fun h => ?_) | refine ite2n (fun h => ?_) (fun h => ?_) | refine ite2 (fun h => ?_) (fun h => ?_)))

variable {P : Program} {w : World} {K : PySem.W.Frag} {mg : Str → Option Value} {base : Heap} {D : Ad}
/-! ### fields -/
inductive Bin5 : Str → Prop
  | plus : Bin5 "plus"
  | less : Bin5 "less"
  | times : Bin5 "times"
  | least : Bin5 "least"
  | most : Bin5 "most"
/-- a field of depth n at most -/
inductive FdP (H : Hp) : Nat → V → Prop
  | noise {n : Nat} {p : Addr} {a b : Int} (h : Tp H p [.str "noise", .int a, .int b]) (a0 : 0 ≤ a) (a1 : a ≤ 8) (b0 : 0 ≤ b) (b1 : b ≤ 3) : FdP H n (.ref p)
  | x {n : Nat} {p : Addr} (h : Tp H p [.str "x"]) : FdP H n (.ref p)
  | z {n : Nat} {p : Addr} (h : Tp H p [.str "z"]) : FdP H n (.ref p)
  | whole {n : Nat} {p : Addr} {k : Int} (h : Tp H p [.str "whole", .int k]) (k0 : -10 ≤ k) (k1 : k ≤ 10) : FdP H n (.ref p)
  | over {n : Nat} {p : Addr} {u : V} {d : Int} (h : Tp H p [.str "over", u, .int d]) (hu : FdP H n u) (d0 : 1 ≤ d) (d1 : d ≤ 10000) : FdP H (n + 1) (.ref p)
  | shift {n : Nat} {p : Addr} {u : V} {a b : Int} (h : Tp H p [.str "shift", .int a, .int b, u]) (hu : FdP H n u) (a0 : -10 ≤ a) (a1 : a ≤ 10) (b0 : -10 ≤ b) (b1 : b ≤ 10) : FdP H (n + 1) (.ref p)
  | bin {n : Nat} {p : Addr} {w : Str} {u v : V} (hw : Bin5 w) (h : Tp H p [.str w, u, v]) (hu : FdP H n u) (hv : FdP H n v) : FdP H (n + 1) (.ref p)
  | lt4 {n : Nat} {p : Addr} {u v s t : V} (h : Tp H p [.str "below", u, v, s, t]) (hu : FdP H n u) (hv : FdP H n v) (hs : FdP H n s) (ht : FdP H n t) : FdP H (n + 1) (.ref p)
/-- tuples stay -/
def Tst (H H' : Hp) : Prop := ∀ a xs, Tp H a xs → Tp H' a xs
theorem Tst.ex {H H' : Hp} (e : Ex H H') : Tst H H' := fun _ _ h => tp_ex e h
theorem Tst.mv {p : Addr} {H H' : Hp} (e : Mv p H H') : Tst H H' := fun _ _ h => tp_mv e h
theorem FdP.mono {H H' : Hp} (e : Tst H H') : ∀ {n : Nat} {v : V}, FdP H n v → FdP H' n v
  | _, _, .noise h a b c d => .noise (e _ _ h) a b c d
  | _, _, .x h => .x (e _ _ h)
  | _, _, .z h => .z (e _ _ h)
  | _, _, .whole h a b => .whole (e _ _ h) a b
  | _, _, .over h hu a b => .over (e _ _ h) (hu.mono e) a b
  | _, _, .shift h hu a b c d => .shift (e _ _ h) (hu.mono e) a b c d
  | _, _, .bin hw h hu hv => .bin hw (e _ _ h) (hu.mono e) (hv.mono e)
  | _, _, .lt4 h hu hv hs ht => .lt4 (e _ _ h) (hu.mono e) (hv.mono e) (hs.mono e) (ht.mono e)
theorem FdP.up {H : Hp} : ∀ {n m : Nat} {v : V}, FdP H n v → n ≤ m → FdP H m v
  | _, _, _, .noise h a b c d, _ => .noise h a b c d
  | _, _, _, .x h, _ => .x h
  | _, _, _, .z h, _ => .z h
  | _, _, _, .whole h a b, _ => .whole h a b
  | _, m + 1, _, .over h hu a b, l => .over h (hu.up (Nat.le_of_succ_le_succ l)) a b
  | _, m + 1, _, .shift h hu a b c d, l => .shift h (hu.up (Nat.le_of_succ_le_succ l)) a b c d
  | _, m + 1, _, .bin hw h hu hv, l => .bin hw h (hu.up (Nat.le_of_succ_le_succ l)) (hv.up (Nat.le_of_succ_le_succ l))
  | _, m + 1, _, .lt4 h hu hv hs ht, l => .lt4 h (hu.up (Nat.le_of_succ_le_succ l)) (hv.up (Nat.le_of_succ_le_succ l)) (hs.up (Nat.le_of_succ_le_succ l)) (ht.up (Nat.le_of_succ_le_succ l))
/-- what stands behind a sort's sign -/
inductive ArgP (K : PySem.W.Frag) (w : World) (D : Ad) (H : Hp) : Nat → Nat → V → Prop
  | f {n : Nat} {u : V} (h : FdP H n u) : ArgP K w D H (n + 1) 70 u
  | i {n c : Nat} {k lo hi : Int} {r : Addr} (h0 : (⟨#[c]⟩ : Str) ≠ "F") (h1 : (⟨#[c]⟩ : Str) ≠ "W") (hk : KDct K w D.R ⟨#[c]⟩ (.ref r)) (hr : ∀ H, SqT K H r [.int lo, .int hi]) (l : lo ≤ k) (u : k ≤ hi) : ArgP K w D H n c (.int k)
structure FdV (K : PySem.W.Frag) (w : World) (D : Ad) (H : Hp) (n : Nat) (p : Addr) (x form : Str) (args : List V) : Prop where
  h : Tp H p (.str x :: args)
  k : KDct K w D.F x (.str form)
  len : args.length = form.cps.size
  four : args.length ≤ 4
  nl : x ≠ "let"
  nn : x ≠ "name"
  a : ∀ (i c : Nat) (u : V), form.cps.toList[i]? = some c → args[i]? = some u → ArgP K w D H n c u
theorem FdP.view {H : Hp} (T : Txt K w mg D) {n : Nat} {v : V} (h : FdP H n v) : ∃ p x form args, v = .ref p ∧ FdV K w D H n p x form args := by
  cases h with
  | noise h a0 a1 b0 b1 =>
    refine ⟨_, _, _, _, rfl, h, T.k_noise, rfl, Nat.le_of_ble_eq_true rfl, by decide, by decide, ?_⟩
    intro i c u h1 h2
    match i, h1, h2 with
    | 0, h1, h2 => cases h1; cases h2; exact .i (by decide) (by decide) T.r_S T.q_S (by omega) (by omega)
    | 1, h1, h2 => cases h1; cases h2; exact .i (by decide) (by decide) T.r_L T.q_L (by omega) (by omega)
  | x h => exact ⟨_, _, _, _, rfl, h, T.k_x, rfl, Nat.le_of_ble_eq_true rfl, by decide, by decide, fun i c u h1 h2 => by simp at h2⟩
  | z h => exact ⟨_, _, _, _, rfl, h, T.k_z, rfl, Nat.le_of_ble_eq_true rfl, by decide, by decide, fun i c u h1 h2 => by simp at h2⟩
  | whole h k0 k1 =>
    refine ⟨_, _, _, _, rfl, h, T.k_whole, rfl, Nat.le_of_ble_eq_true rfl, by decide, by decide, ?_⟩
    intro i c u h1 h2
    match i, h1, h2 with
    | 0, h1, h2 => cases h1; cases h2; exact .i (by decide) (by decide) T.r_N T.q_N (by omega) (by omega)
  | over h hu d0 d1 =>
    refine ⟨_, _, _, _, rfl, h, T.k_over, rfl, Nat.le_of_ble_eq_true rfl, by decide, by decide, ?_⟩
    intro i c u h1 h2
    match i, h1, h2 with
    | 0, h1, h2 => cases h1; cases h2; exact .f hu
    | 1, h1, h2 => cases h1; cases h2; exact .i (by decide) (by decide) T.r_D T.q_D (by omega) (by omega)
  | shift h hu a0 a1 b0 b1 =>
    refine ⟨_, _, _, _, rfl, h, T.k_shift, rfl, Nat.le_of_ble_eq_true rfl, by decide, by decide, ?_⟩
    intro i c u h1 h2
    match i, h1, h2 with
    | 0, h1, h2 => cases h1; cases h2; exact .i (by decide) (by decide) T.r_M T.q_M (by omega) (by omega)
    | 1, h1, h2 => cases h1; cases h2; exact .i (by decide) (by decide) T.r_M T.q_M (by omega) (by omega)
    | 2, h1, h2 => cases h1; cases h2; exact .f hu
  | bin hw h hu hv =>
    rename_i m p x u v
    have key : ∀ (i c : Nat) (u' : V), (Str.ofString "FF").cps.toList[i]? = some c → ([u, v] : List V)[i]? = some u' → ArgP K w D H (m + 1) c u' := by
      intro i c u h1 h2
      match i, h1, h2 with
      | 0, h1, h2 => cases h1; cases h2; exact .f hu
      | 1, h1, h2 => cases h1; cases h2; exact .f hv
    cases hw with
    | plus => exact ⟨_, _, _, _, rfl, h, T.k_plus, rfl, Nat.le_of_ble_eq_true rfl, by decide, by decide, key⟩
    | less => exact ⟨_, _, _, _, rfl, h, T.k_less, rfl, Nat.le_of_ble_eq_true rfl, by decide, by decide, key⟩
    | times => exact ⟨_, _, _, _, rfl, h, T.k_times, rfl, Nat.le_of_ble_eq_true rfl, by decide, by decide, key⟩
    | least => exact ⟨_, _, _, _, rfl, h, T.k_least, rfl, Nat.le_of_ble_eq_true rfl, by decide, by decide, key⟩
    | most => exact ⟨_, _, _, _, rfl, h, T.k_most, rfl, Nat.le_of_ble_eq_true rfl, by decide, by decide, key⟩
  | lt4 h hu hv hs ht =>
    refine ⟨_, _, _, _, rfl, h, T.k_below, rfl, Nat.le_of_ble_eq_true rfl, by decide, by decide, ?_⟩
    intro i c u h1 h2
    match i, h1, h2 with
    | 0, h1, h2 => cases h1; cases h2; exact .f hu
    | 1, h1, h2 => cases h1; cases h2; exact .f hv
    | 2, h1, h2 => cases h1; cases h2; exact .f hs
    | 3, h1, h2 => cases h1; cases h2; exact .f ht
/-! the data of a field: not the empty tuple -/
theorem dp_tup {H : Hp} {p : Addr} {xs : List V} {ds : List PyData} (h : Tp H p xs) (a : DpAll K H xs ds) : Dp K H (.ref p) (.tuple ds) := .tup (tp_sq h) a
theorem so_noise : PyData.strOk "noise" = true := by decide +kernel
theorem so_x : PyData.strOk "x" = true := by decide +kernel
theorem so_z : PyData.strOk "z" = true := by decide +kernel
theorem so_whole : PyData.strOk "whole" = true := by decide +kernel
theorem so_over : PyData.strOk "over" = true := by decide +kernel
theorem so_shift : PyData.strOk "shift" = true := by decide +kernel
theorem so_below : PyData.strOk "below" = true := by decide +kernel
theorem so_bin {x : Str} (h : Bin5 x) : PyData.strOk x = true := by cases h <;> decide +kernel
structure Dat (K : PySem.W.Frag) (H : Hp) (n : Nat) (v : V) (d : PyData) : Prop where
  dp : Dp K H v d
  lay : PyData.canLay0 d = true
  dep : PyData.depth d ≤ n
theorem dat_int {H : Hp} {n : Nat} (i : Int) : Dat K H n (.int i) (.int i) := ⟨.int i, rfl, Nat.zero_le _⟩
theorem dat_str {H : Hp} {n : Nat} {x : Str} (h : PyData.strOk x = true) : Dat K H n (.str x) (.str x) := ⟨.str x, h, Nat.zero_le _⟩
theorem dat_1 {H : Hp} {n : Nat} {p : Addr} {v1 : V} {d1 : PyData} (h : Tp H p [v1]) (a : Dat K H n v1 d1) : Dat K H (n + 1) (.ref p) (.tuple [d1]) :=
  ⟨dp_tup h (.cons a.dp .nil), by simp [PyData.canLay0, PyData.canLayAll0, a.lay], by have := a.dep; simp [PyData.depth, PyData.depthAll]; omega⟩
theorem dat_2 {H : Hp} {n : Nat} {p : Addr} {v1 v2 : V} {d1 d2 : PyData} (h : Tp H p [v1, v2]) (a : Dat K H n v1 d1) (b : Dat K H n v2 d2) : Dat K H (n + 1) (.ref p) (.tuple [d1, d2]) :=
  ⟨dp_tup h (.cons a.dp (.cons b.dp .nil)), by simp [PyData.canLay0, PyData.canLayAll0, a.lay, b.lay], by have := a.dep; have := b.dep; simp [PyData.depth, PyData.depthAll]; omega⟩
theorem dat_3 {H : Hp} {n : Nat} {p : Addr} {v1 v2 v3 : V} {d1 d2 d3 : PyData} (h : Tp H p [v1, v2, v3]) (a : Dat K H n v1 d1) (b : Dat K H n v2 d2) (c : Dat K H n v3 d3) : Dat K H (n + 1) (.ref p) (.tuple [d1, d2, d3]) :=
  ⟨dp_tup h (.cons a.dp (.cons b.dp (.cons c.dp .nil))), by simp [PyData.canLay0, PyData.canLayAll0, a.lay, b.lay, c.lay], by have := a.dep; have := b.dep; have := c.dep; simp [PyData.depth, PyData.depthAll]; omega⟩
theorem dat_4 {H : Hp} {n : Nat} {p : Addr} {v1 v2 v3 v4 : V} {d1 d2 d3 d4 : PyData} (h : Tp H p [v1, v2, v3, v4]) (a : Dat K H n v1 d1) (b : Dat K H n v2 d2) (c : Dat K H n v3 d3) (d : Dat K H n v4 d4) : Dat K H (n + 1) (.ref p) (.tuple [d1, d2, d3, d4]) :=
  ⟨dp_tup h (.cons a.dp (.cons b.dp (.cons c.dp (.cons d.dp .nil)))), by simp [PyData.canLay0, PyData.canLayAll0, a.lay, b.lay, c.lay, d.lay], by have := a.dep; have := b.dep; have := c.dep; have := d.dep; simp [PyData.depth, PyData.depthAll]; omega⟩
theorem dat_5 {H : Hp} {n : Nat} {p : Addr} {v1 v2 v3 v4 v5 : V} {d1 d2 d3 d4 d5 : PyData} (h : Tp H p [v1, v2, v3, v4, v5]) (a : Dat K H n v1 d1) (b : Dat K H n v2 d2) (c : Dat K H n v3 d3) (d : Dat K H n v4 d4) (e : Dat K H n v5 d5) : Dat K H (n + 1) (.ref p) (.tuple [d1, d2, d3, d4, d5]) :=
  ⟨dp_tup h (.cons a.dp (.cons b.dp (.cons c.dp (.cons d.dp (.cons e.dp .nil))))), by simp [PyData.canLay0, PyData.canLayAll0, a.lay, b.lay, c.lay, d.lay, e.lay], by have := a.dep; have := b.dep; have := c.dep; have := d.dep; have := e.dep; simp [PyData.depth, PyData.depthAll]; omega⟩
theorem FdP.dp (K : PySem.W.Frag) {H : Hp} : ∀ {n : Nat} {v : V}, FdP H n v → ∃ x ds, Dat K H (n + 1) v (.tuple (.str x :: ds))
  | _, _, .noise h _ _ _ _ => ⟨_, _, dat_3 h (dat_str so_noise) (dat_int _) (dat_int _)⟩
  | _, _, .x h => ⟨_, _, dat_1 h (dat_str so_x)⟩
  | _, _, .z h => ⟨_, _, dat_1 h (dat_str so_z)⟩
  | _, _, .whole h _ _ => ⟨_, _, dat_2 h (dat_str so_whole) (dat_int _)⟩
  | _, _, .over h hu _ _ => let ⟨_, _, a⟩ := hu.dp K; ⟨_, _, dat_3 h (dat_str so_over) a (dat_int _)⟩
  | _, _, .shift h hu _ _ _ _ => let ⟨_, _, a⟩ := hu.dp K; ⟨_, _, dat_4 h (dat_str so_shift) (dat_int _) (dat_int _) a⟩
  | _, _, .bin hw h hu hv => let ⟨_, _, a⟩ := hu.dp K; let ⟨_, _, b⟩ := hv.dp K; ⟨_, _, dat_3 h (dat_str (so_bin hw)) a b⟩
  | _, _, .lt4 h hu hv hs ht => let ⟨_, _, a⟩ := hu.dp K; let ⟨_, _, b⟩ := hv.dp K; let ⟨_, _, c⟩ := hs.dp K; let ⟨_, _, d⟩ := ht.dp K; ⟨_, _, dat_5 h (dat_str so_below) a b c d⟩
theorem dp_mono {H H' : Hp} (e : Ex H H') {v : V} {d : PyData} (h : Dp K H v d) : Dp K H' v d := Dp.rec (motive_1 := fun v d _ => Dp K H' v d) (motive_2 := fun vs ds _ => DpAll K H' vs ds) .non .bl .int .str (fun a _ b => .lst (sl_ex e a) b) (fun a _ b => .tup (sq_ex e a) b) .nil (fun _ _ a b => .cons a b) h
theorem Dat.mono {H H' : Hp} (e : Ex H H') {n : Nat} {v : V} {d : PyData} (h : Dat K H n v d) : Dat K H' n v d := ⟨dp_mono e h.dp, h.lay, h.dep⟩
theorem Dat.shp {H : Hp} {n : Nat} {v : V} {d : PyData} (h : Dat K H n v d) (hn : n ≤ 64) : SeqAt.shaped d = true := by
  unfold SeqAt.shaped
  rw [h.lay, decide_eq_true (Nat.le_trans h.dep hn)]
  rfl
/-! ### must_kind, must_field -/
def spKind : Sp := fun vs H Q _ => ∃ (v x : V) (n : Nat), vs = [v, x] ∧ FdP H n v ∧ n ≤ 5 ∧ ∀ H', Ex H H' → Q .non H'
theorem h_must_kind (F : DefAt K mg "must_kind" s_must_kind [] []) (T : Txt K w mg D) : Has P w K mg base 1 "must_kind" spKind [] := by
  refine has_of F sc_must_kind (fun _ _ _ _ _ _ us hl => match us, hl with | [_, _], _ => rfl) ?_ ?_
  · rintro _ _ _ _ ⟨v, x, n, rfl, _⟩; rfl
  · rintro f cdv A outer s H vs Q E hr ⟨v, x, n, rfl, hv, hn, k⟩
    obtain ⟨p, y, form, args, rfl, vw⟩ := hv.view T
    obtain ⟨y', ds, hd⟩ := hv.dp K
    have htp := vw.h
    refine ⟨_, pss_cons (ps_if (PW.pt (pw_or (pt_not (pt_val (pe_callB call_isi (by rfl) T.f_isinstance bt_isinstance (pa_cons (pv 0) (pa_cons (pe_bltn (v := .ty "tuple") (by rfl) T.f_tuple bt_tuple rfl) pa_nil))))) (pw_or (pt_cmpR (op_eqD hr.units) (pv 0) (pe_tup (pa_nil)) (nomark _)) (pw_or1 (pt_not (pt_val (pe_callB call_isi (by rfl) T.f_isinstance bt_isinstance (pa_cons (pe_ix ix_tup (pv 0) (pe_int) (fun _ _ => rfl)) (pa_cons (pe_bltn (v := .ty "str") (by rfl) T.f_str bt_str rfl) pa_nil))))))))) (pss_never) (pss_nil))
      (pss_cons (ps_set (i := 2) sc_must_kind.nd rfl (Or.inl rfl) (pe_tabget (pe_gr T.FORMS (by rfl)) (pe_ix ix_tup (pv 0) (pe_int) (fun _ _ => rfl)) ⟨rfl, rfl, rfl, rfl⟩))
      (pss_one (ps_if (PW.pt (pw_or (pt_cmpR op_isN (pv 2) (pe_non) (nomark _)) (pw_or1 (pt_cmpR op_ne (pe_callB call_len_seq (by rfl) T.f_len bt_len (pa_cons (pv 0) (pa_nil))) (pe_op op_add (pe_callB call_len_str (by rfl) T.f_len bt_len (pa_cons (pv 2) (pa_nil))) (pe_int)) (nomark _))))) (pss_never) (pss_nil)))), ?_⟩
    walk_at "rd"
    rename_i p0 hp0
    have hp0' : Tp (upd H p0 (.tup [])) p0 [] := tp_up
    refine ⟨.tuple (.str y' :: ds), .tuple [], (hd.mono (Ex.nw (Ex.rfl' H) hp0)).dp, dp_tup hp0' .nil, hd.shp (by omega), rfl, ?_⟩
    walk_at "rd"
    refine ⟨T.lF, ⟨_, _, T.k_x⟩, ?_⟩
    walk_at "rd"
    refine ⟨_, _, rfl, vw.k, ?_⟩
    walk_at "rd"
    have e1 : form.length = args.length := vw.len.symm
    refine ⟨Evl.sz_of (by have := vw.four; omega), ?_⟩
    walk_at "rd"
    refine ite_nno (congrArg V.int ?_) ?_
    · rw [List.length_cons, e1]; omega
    walk_at "rd"
    exact k _ (by walk_at "ex")
/-- a field of depth n at most is fine -/
def spField (n : Nat) : Sp := fun vs H Q _ => ∃ (v y : V) (p : Addr) (path : List V), vs = [v, .ref p, y] ∧ FdP H n v ∧ Tp H p path ∧ path.length + n ≤ 20 ∧ n ≤ 5 ∧ ∀ H', Ex H H' → Q .non H'
def spThings (n : Nat) : Sp := spField n
theorem h_must_things (n k : Nat) (F : DefAt K mg "must_things" s_must_things [] []) (T : Txt K w mg D) (G_is_whole : Has P w K mg base 1 "is_whole" spWhole []) {spF : Sp} (hs : ∀ m, n = m + 1 → ∀ vs H Q E, spField m vs H Q E → spF vs H Q E)
    (G_must_field : Has P w K mg base (k + 1) "must_field" spF []) : Has P w K mg base (k + 2) "must_things" (spThings n) [] := by
  refine has_of F sc_must_things (fun _ _ _ _ _ _ us hl => match us, hl with | [_, _, _], _ => rfl) ?_ ?_
  · rintro _ _ _ _ ⟨v, y, p, path, rfl, _⟩; rfl
  · rintro f cdv A outer s H vs Q E hr ⟨v, y, pp, path, rfl, hv, hp, hl, hn, kk⟩
    obtain ⟨p, x, form, args, rfl, vw⟩ := hv.view T
    have htp := vw.h
    refine ⟨_, pss_one (ps_for PassesOwn.never rfl (pi_enumS rfl (by rfl) T.f_enumerate (pa_cons (pe_ix ix_kdict (pe_gr T.FORMS (by rfl)) (pe_ix ix_tup (pv 0) (pe_int) (fun _ _ => rfl)) (fun _ _ => rfl)) pa_nil) (pk_cons pe_int pk_nil)) (pg_tup rfl (pgs_cons (pg_name (i := 3) sc_must_things.nd rfl (Or.inl rfl)) (pgs_cons (pg_name (i := 4) sc_must_things.nd rfl (Or.inl rfl)) (pgs_nil)))) (pss_cons (ps_set (i := 5) sc_must_things.nd rfl (Or.inl rfl) (pe_ix ix_tup (pv 0) (pv 3) (fun _ _ => rfl)))
      (pss_cons (ps_if (PW.pt (pw_and (pt_cmpR op_eq (pv 4) (pe_str) (nomark _)) (pw_and1 (pt_never)))) (pss_never) (pss_nil))
      (pss_one (ps_if (pt_cmpR op_eq (pv 4) (pe_str) (nomark _)) (pss_cons (ps_set (i := 6) sc_must_things.nd rfl (Or.inl rfl) (pv 2))
      (pss_cons (ps_if (PW.pt (pw_and (pt_cmpR op_eq (pe_ix ix_tup (pv 0) (pe_int) (fun _ _ => rfl)) (pe_str) (nomark _)) (pw_and1 (pt_cmpR op_eq (pv 3) (pe_int) (nomark _))))) (pss_never) (pss_nil))
      (pss_one (ps_expr (pe_c G_must_field (hr.mono (by omega)) (by rfl) (pa_cons (pv 5) (pa_cons (pe_op op_catA (pv 1) (pe_tup (pa_cons (pv 3) (pa_nil)))) (pa_cons (pv 6) (pa_nil))))))))) (pss_one (ps_if (pt_cmpR op_ne (pv 4) (pe_str) (nomark _)) (pss_cons (ps_asg (pe_ix ix_kdict (pe_gr T.REACHES (by rfl)) (pv 4) (fun _ _ => rfl)) (pg_tup rfl (pgs_cons (pg_name (i := 7) sc_must_things.nd rfl (Or.inl rfl)) (pgs_cons (pg_name (i := 8) sc_must_things.nd rfl (Or.inl rfl)) (pgs_nil)))))
      (pss_one (ps_if (pt_not (pt_val (pe_c G_is_whole (hr.mono (by omega)) (by rfl) (pa_cons (pv 5) (pa_cons (pv 7) (pa_cons (pv 8) (pa_nil))))))) (pss_never) (pss_nil)))) (pss_nil)))))))), ?_⟩
    walk_at "rd"
    refine ⟨_, _, _, rfl, rfl, vw.k, ?_⟩
    walk_at "rd"
    have hsz := vw.len
    have h4 := vw.four
    refine for_itn (fun i σ H' => Here (Ex H H' ∧ ∃ r, σ = some (.ref p) :: some (.ref pp) :: some y :: r ∧ r.length = 6)) (.it ⟨Ex.rfl' H, _, rfl, rfl⟩) ?_ ?_
    · intro i σ H' T hi hh hT
      obtain ⟨he, r, rfl, hr6⟩ := hh.get
      obtain ⟨c, hc⟩ : ∃ c, form.cps.toList[i]? = some c := ⟨_, List.getElem?_eq_getElem (by rw [Array.length_toList]; exact hi)⟩
      obtain ⟨u, hu⟩ : ∃ u, args[i]? = some u := ⟨_, List.getElem?_eq_getElem (by omega)⟩
      have e2 : itsEnum form i = [.int (1 + (i : Int)), .str ⟨#[c]⟩] := by
        show (match form.cps.toList[i]? with
          | some c => [V.int (1 + (i : Int)), .str ⟨#[c]⟩]
          | none => []) = _
        rw [hc]
      rw [e2]
      have ha := vw.a i c u hc hu
      match r, hr6 with
      | [r0, r1, r2, r3, r4, r5], _ =>
      walk_at "rd"
      have hp' : Tp (upd H' T (.tup [.int (1 + (i : Int)), .str ⟨#[c]⟩])) pp path := tp_new hT (tp_ex he hp)
      refine ⟨_, _, _, _, rfl, rfl, tp_sq (tp_new hT (tp_ex he htp)), at_c hu, ?_⟩
      cases ha with
      | f hf =>
        rename_i m
        walk_at "rd"
        refine ite_no (fun z => vw.nl (V.str.inj z)) ?_
        walk_at "rd"
        rename_i t ht
        refine ⟨pp, t, path, [.int (1 + (i : Int))], rfl, rfl, tp_sq (tp_new ht hp'), sq_up, Evl.sz_of (by simp; omega), ?_, ?_, ?_⟩
        · intro hz
          walk_at "rd"
          refine hs m rfl _ _ _ _ ⟨u, y, t, _, rfl, hf.mono (Tst.ex (by walk_at "ex")), tp_up, by simp; omega, by omega, fun H2 he2 => ?_⟩
          exact .it ⟨by walk_at "ex", _, rfl, rfl⟩
        · intro _ z; cases z
        · intro _ _ t2 ht2
          walk_at "rd"
          refine hs m rfl _ _ _ _ ⟨u, y, t2, _, rfl, hf.mono (Tst.ex (by walk_at "ex")), tp_up, by simp; omega, by omega, fun H2 he2 => ?_⟩
          exact .it ⟨by walk_at "ex", _, rfl, rfl⟩
      | i h0 h1 hk hr l u =>
        rename_i kv lo hi' rr
        walk_at "rd"
        refine ite_no (fun z => h1 (V.str.inj z)) ?_
        walk_at "rd"
        refine ite_no (fun z => h0 (V.str.inj z)) ?_
        walk_at "rd"
        refine ite_nyes (fun z => h1 (V.str.inj z)) ?_
        walk_at "rd"
        refine ⟨_, _, _, rfl, rfl, hk, ?_⟩
        have hrr := hr (upd H' T (.tup [.int (1 + (i : Int)), .str ⟨#[c]⟩]))
        walk_at "rd"
        exact .it ⟨by walk_at "ex", _, rfl, rfl⟩
    · intro σ H' hh
      obtain ⟨he, _⟩ := hh.get
      walk_at "rd"
      exact kk _ he

end Kw
set_option Elab.async false
set_option linter.all false
set_option maxRecDepth 100000
set_option maxHeartbeats 2000000
namespace Kw
open PySem PySem.Spec PyProof.Rows L2
local macro_rules | `(tactic| walk_at "tp") => `(tactic| repeat (first | assumption | exact tp_up | refine tp_new (by assumption) ?_ | refine tp_lst (by assumption) ?_ | refine tp_ex (by assumption) ?_ | refine tp_mv (by assumption) ?_))
local macro_rules | `(tactic| walk_at "sq") => `(tactic| repeat (first | assumption | exact sq_up | exact sl_up | exact tp_sq (by assumption) | exact Evl.sq_of (by assumption) | refine sq_new (by assumption) ?_ | refine sl_new (by assumption) ?_ | refine sq_lst (by assumption) ?_ | refine sq_ex (by assumption) ?_ | refine sl_ex (by assumption) ?_ | refine sq_mv (by assumption) ?_))
local macro_rules | `(tactic| walk_at "ex") => `(tactic| repeat (first | assumption | exact Ex.rfl' _ | refine Ex.nw ?_ (by assumption) | refine Ex.tr ?_ (by assumption)))
local macro_rules | `(tactic| walk_at "cond") => `(tactic| first | decide | exact Or.inl ⟨by omega, by omega⟩ | exact Or.inr ⟨by omega, by omega⟩ | exact ⟨by omega, by omega⟩ | omega)
local macro_rules | `(tactic| walk_at "rd1") => `(tactic| first
  | refine ⟨_, rfl, ?_⟩
  | refine ⟨_, _, rfl, rfl, ?_⟩
  | refine ⟨_, _, rfl, ?_⟩
  | refine ⟨rfl, ?_⟩
  | refine ⟨_, _, _, rfl, ?_⟩
  | (refine' ⟨_, _, _, _, rfl, rfl, ?h, ?ha, ?q⟩; (case h => walk_at "sq"); (case ha => first | rfl | exact at_c0 _ _))
  | (refine' ⟨_, _, rfl, ?h, ?ha, ?q⟩; (case h => walk_at "sq"); (case ha => rfl))
  | (refine' ⟨_, _, rfl, Or.inr ?h, ?q⟩; (case h => walk_at "sq"))
  | (refine' ⟨_, _, rfl, Or.inl ?h, ?q⟩; (case h => walk_at "sq"))
  | refine ⟨_, _, _, _, _, rfl, .ty _, .base (.int _), kit_ty kit_ii, ?_⟩
  | refine ⟨_, _, _, _, _, rfl, .ty _, .base (.int _), kit_ty kit_ib, ?_⟩
  | refine ⟨_, _, _, _, _, rfl, .ty _, .base (.str _), kit_ty kit_ss, ?_⟩
  | refine ⟨_, _, _, _, _, rfl, .ty _, .base (.tup (by assumption)), kit_ty kit_tt, ?_⟩
  | with_reducible refine iteT ?_
  | with_reducible refine iteF ?_
  | refine ite_yes (by first | decide | omega) ?_
  | refine ite_no (by first | decide | omega) ?_
  | refine ite_no (fun z => absurd (V.str.inj z) (by assumption)) ?_
  | refine ite_nyes (by first | decide | omega) ?_
  | refine ite_nno (by first | decide | omega) ?_
  | (refine' And.intro ?h ?q; (case h => exact Evl.sz_of (Nat.le_of_ble_eq_true rfl)))
  | refine fun p (hp : (_ : Hp) p = none) => ?_
  | (refine' ⟨_, _, rfl, Or.inr ?h, rfl, rfl, ?q⟩; (case h => walk_at "sq"))
  | (refine' ⟨_, _, rfl, Or.inl ?h, rfl, rfl, ?q⟩; (case h => walk_at "sq"))
  | (refine' And.intro ?h ?q; (case h => walk_at "cond")))
local macro_rules | `(tactic| walk_at "rd") => `(tactic| repeat walk_at "rd1")
local macro_rules | `(tactic| walk_at "rs") => `(tactic| repeat' (first | walk_at "rd1" | refine ite2d (fun h => ?_) (fun h => ?_) | refine ite2n (fun h => ?_) (fun h => ?_) | refine ite2 (fun h => ?_) (fun h => ?_)))

variable {P : Program} {w : World} {K : PySem.W.Frag} {mg : Str → Option Value} {base : Heap} {D : Ad}
theorem b_must_field (n k : Nat) (T : Txt K w mg D) (F : DefAt K mg "must_field" s_must_field [] []) (G_must_kind : Has P w K mg base 1 "must_kind" spKind []) (G_must_things : Has P w K mg base (k + 2) "must_things" (spThings n) []) : Has P w K mg base (k + 4) "must_field" (spField n) [] := by
  refine has_of F sc_must_field (fun _ _ _ _ _ _ us hl => match us, hl with | [_, _, _], _ => rfl) ?_ ?_
  · rintro _ _ _ _ ⟨v, y, p, path, rfl, _⟩; rfl
  · rintro f cdv A outer s H vs Q E hr ⟨v, y, pp, path, rfl, hv, hp, hl, hn, kk⟩
    obtain ⟨p, x, form, args, rfl, vw⟩ := hv.view T
    have htp := vw.h
    refine ⟨_, pss_cons (ps_expr (pe_c G_must_kind (hr.mono (by omega)) (by rfl) (pa_cons (pv 0) (pa_cons (pv 1) (pa_nil)))))
      (pss_cons (ps_expr (pe_c G_must_things (hr.mono (by omega)) (by rfl) (pa_cons (pv 0) (pa_cons (pv 1) (pa_cons (pv 2) (pa_nil))))))
      (pss_one (ps_if (PW.pt (pw_and (pt_cmpR op_eq (pe_ix ix_tup (pv 0) (pe_int) (fun _ _ => rfl)) (pe_str) (nomark _)) (pw_and1 (pt_never)))) (pss_never) (pss_nil)))), ?_⟩
    walk_at "rd"
    refine ⟨_, _, n, rfl, hv, hn, fun H1 e1 => ?_⟩
    walk_at "rd"
    refine ⟨_, _, _, _, rfl, hv.mono (.ex e1), tp_ex e1 hp, hl, hn, fun H2 e2 => ?_⟩
    walk_at "rd"
    try refine ite_no (fun z => vw.nn (V.str.inj z)) ?_
    walk_at "rd"
    exact kk _ (by walk_at "ex")
theorem h_must_field (T : Txt K w mg D) (FF : DefAt K mg "must_field" s_must_field [] []) (FT : DefAt K mg "must_things" s_must_things [] []) (G_is_whole : Has P w K mg base 1 "is_whole" spWhole []) (G_must_kind : Has P w K mg base 1 "must_kind" spKind []) : ∀ n, Has P w K mg base (3 * n + 4) "must_field" (spField n) []
  | 0 => b_must_field 0 0 T FF G_must_kind (h_must_things 0 0 FT T G_is_whole (fun m h => nomatch h) (has_no FF sc_must_field (fun _ _ _ _ _ _ us hl => match us, hl with | [_, _, _], _ => rfl)))
  | n + 1 => (b_must_field (n + 1) (3 * n + 3) T FF G_must_kind (h_must_things (n + 1) (3 * n + 3) FT T G_is_whole (fun m h vs H Q E q => by cases h; exact q) (h_must_field T FF FT G_is_whole G_must_kind n))).mono (by omega)
/-! ### parts_of, size_of -/
/-- what stands at the F's of a form -/
def pickF : List Nat → List V → List V
  | c :: cs, u :: us => if c = 70 then u :: pickF cs us else pickF cs us
  | _, _ => []
theorem pickF_snoc : ∀ (cs : List Nat) (us : List V) (c : Nat) (u : V), cs.length = us.length → pickF (cs ++ [c]) (us ++ [u]) = pickF cs us ++ (if c = 70 then [u] else [])
  | [], [], c, u, _ => by show (if c = 70 then u :: pickF [] [] else pickF [] []) = _; split <;> rfl
  | a :: cs, b :: us, c, u, h => by
    have ih := pickF_snoc cs us c u (by simpa using h)
    show (if a = 70 then b :: pickF (cs ++ [c]) (us ++ [u]) else pickF (cs ++ [c]) (us ++ [u])) = (if a = 70 then b :: pickF cs us else pickF cs us) ++ _
    rw [ih]
    split <;> rfl
theorem pickF_len : ∀ (cs : List Nat) (us : List V), (pickF cs us).length ≤ us.length
  | c :: cs, u :: us => by
    have := pickF_len cs us
    show (if c = 70 then u :: pickF cs us else pickF cs us).length ≤ _
    split <;> simp <;> omega
  | [], us => by cases us <;> simp [pickF]
  | _ :: _, [] => by simp [pickF]
theorem pickF_mem : ∀ (cs : List Nat) (us : List V) (v : V), v ∈ pickF cs us → ∃ i : Nat, cs[i]? = some 70 ∧ us[i]? = some v
  | c :: cs, u :: us, v, h => by
    have h' : v ∈ (if c = 70 then u :: pickF cs us else pickF cs us) := h
    split at h'
    · rename_i e
      rcases List.mem_cons.mp h' with h | h
      · exact ⟨0, by simp [e], by simp [h]⟩
      · obtain ⟨i, a, b⟩ := pickF_mem cs us v h
        exact ⟨i + 1, by simpa using a, by simpa using b⟩
    · obtain ⟨i, a, b⟩ := pickF_mem cs us v h'
      exact ⟨i + 1, by simpa using a, by simpa using b⟩
  | [], us, v, h => by cases us <;> cases h
  | _ :: _, [], v, h => by cases h
theorem FdV.part {H : Hp} {n : Nat} {p : Addr} {x form : Str} {args : List V} (vw : FdV K w D H n p x form args) {u : V} (h : u ∈ pickF form.cps.toList args) : ∃ m, n = m + 1 ∧ FdP H m u := by
  obtain ⟨i, a, b⟩ := pickF_mem _ _ _ h
  cases vw.a i 70 u a b with
  | f hf => exact ⟨_, rfl, hf⟩
  | i h0 => exact absurd rfl h0
theorem take_snoc {α : Type} {l : List α} {i : Nat} {a : α} (h : l[i]? = some a) : l.take (i + 1) = l.take i ++ [a] := by
  rw [List.take_add_one, h]; rfl
/-- the parts of a field -/
def spParts (K : PySem.W.Frag) (w : World) (D : Ad) : Sp := fun vs H Q _ => ∃ (p : Addr) (n : Nat) (x form : Str) (args : List V), vs = [.ref p] ∧ FdV K w D H n p x form args ∧ ∀ (l : Addr) (H' : Hp), Ex H H' → H l = none → H' l = some (.lst (pickF form.cps.toList args)) → Q (.ref l) H'
theorem h_parts_of (F : DefAt K mg "parts_of" s_parts_of [] []) (T : Txt K w mg D) : Has P w K mg base 1 "parts_of" (spParts K w D) [] := by
  refine has_of F sc_parts_of (fun _ _ _ _ _ _ us hl => match us, hl with | [_], _ => rfl) ?_ ?_
  · rintro _ _ _ _ ⟨p, n, x, form, args, rfl, _⟩; rfl
  · rintro f cdv A outer s H vs Q E hr ⟨p, n, x, form, args, rfl, vw, kk⟩
    have htp := vw.h
    refine ⟨_, pss_one (ps_ret (pe_lc (own := [("thing", 1), ("sort", 2)]) (g := (gTup K 2 (gCons (gName 1) (gCons (gName 2) (gNil))))) rfl sc_parts_of.nd (pi_zipS rfl (by rfl) T.f_zip (pa_cons (pe_slice sl_tupA (pv 0) (po_some (pe_int)) (po_none)) (pa_cons (pe_ix ix_kdict (pe_gr T.FORMS (by rfl)) (pe_ix ix_tup (pv 0) (pe_int) (fun _ _ => rfl)) (fun _ _ => rfl)) pa_nil)) (pk_cons pe_bl pk_nil)) (blkOk_by (own := [("thing", 1), ("sort", 2)]) (N := nm_parts_of) (sc := defScope s_parts_of) (by decide +kernel)) (fun _ _ _ _ _ => pg_tup rfl (pgs_cons (pg_name (i := 1) sc_parts_of.nd rfl (Or.inl rfl)) (pgs_cons (pg_name (i := 2) sc_parts_of.nd rfl (Or.inl rfl)) (pgs_nil)))) (fun _ _ _ _ _ => pts_one (pt_cmpR op_eq (pv 2) (pe_str) (nomark _))) (fun _ _ _ _ _ => pv 1))), ?_⟩
    walk_at "rd"
    refine ⟨p, _, rfl, tp_sq htp, fun z => absurd z.1 (by simp [HT.sIx]), fun _ q hq => ?_⟩
    have ec : cutV (.str x :: args) (some 1) none = args := by
      simp [cutV, HT.sIx]
    rw [ec]
    walk_at "rd"
    refine ⟨_, _, _, rfl, rfl, vw.k, ?_⟩
    walk_at "rd"
    refine ⟨q, args, form, rfl, sq_up, vw.len, ?_⟩
    intro l hl
    have hnl : H l = none := Ex.fr (Ex.nw (Ex.rfl' H) hq) hl
    refine lc_itz (fun i H' => Here (SqT K H' q args ∧ Ex H H' ∧ H' l = some (.lst (pickF (form.cps.toList.take i) (args.take i))))) ?_ (fun i H' _ hh => hh.get.1) ?_ ?_
    · exact .it ⟨sq_new hl sq_up, by walk_at "ex", upd_same⟩
    · intro i H' T hi hh hT
      obtain ⟨h1, h2, h3⟩ := hh.get
      obtain ⟨c, hc⟩ : ∃ c, form.cps.toList[i]? = some c := ⟨_, List.getElem?_eq_getElem (by rw [Array.length_toList]; exact hi)⟩
      have hsz := vw.len
      obtain ⟨u, hu⟩ : ∃ u, args[i]? = some u := ⟨_, List.getElem?_eq_getElem (by omega)⟩
      have e2 : itsZip args form i = [u, .str ⟨#[c]⟩] := by
        show (match args[i]?, form.cps.toList[i]? with
          | some v, some c => [v, V.str ⟨#[c]⟩]
          | _, _ => []) = _
        rw [hc, hu]
      rw [e2]
      have es := pickF_snoc (form.cps.toList.take i) (args.take i) c u (by rw [List.length_take, List.length_take, Array.length_toList, hsz])
      rw [← take_snoc hc, ← take_snoc hu] at es
      have hlT : l ≠ T := ne_of_none h3 hT
      have h4' := vw.four
      walk_at "rd"
      refine ite2d (fun z => ?_) (fun z => ?_)
      · have hc70 : c = 70 := by
          have := V.str.inj z
          injection this with this
          injection this with this
          injection this
        rw [if_pos hc70] at es
        walk_at "rd"
        refine ⟨_, by rw [upd_ne hlT]; exact h3, Evl.sz_lt ?_, .it ⟨?_, ?_, ?_⟩⟩
        · have := pickF_len (form.cps.toList.take i) (args.take i)
          rw [List.length_take] at this
          omega
        · exact sq_lst (by rw [upd_ne hlT]; exact h3) (sq_new hT h1)
        · exact Ex.mu (Ex.nw h2 hT) hnl
        · rw [es]; exact upd_same
      · have hc70 : ¬ c = 70 := fun e => z (by rw [e]; rfl)
        rw [if_neg hc70, List.append_nil] at es
        exact .it ⟨sq_new hT h1, Ex.nw h2 hT, by rw [upd_ne hlT, es]; exact h3⟩
    · intro H' hh
      obtain ⟨h1, h2, h3⟩ := hh.get
      refine kk l H' h2 hnl ?_
      have hsz := vw.len
      rw [List.take_of_length_le (by rw [Array.length_toList]; exact Nat.le_refl _), List.take_of_length_le (by omega)] at h3
      exact h3
/-- how many fields: at most so many -/
def szB : Nat → Int
  | 0 => 1
  | n + 1 => 1 + 4 * szB n
def spSize (n : Nat) : Sp := fun vs H Q _ => ∃ (v y : V), vs = [v, y] ∧ FdP H n v ∧ n ≤ 5 ∧ ∀ (k : Int) (H' : Hp), Ex H H' → 0 ≤ k → k ≤ szB n → Q (.int k) H'
theorem b_size_of (n k : Nat) (T : Txt K w mg D) (F : DefAt K mg "size_of" s_size_of [] []) (G_parts_of : Has P w K mg base 1 "parts_of" (spParts K w D) []) {spF : Sp} (hs : ∀ m, n = m + 1 → ∀ vs H Q E, spSize m vs H Q E → spF vs H Q E)
    (G_size_of : Has P w K mg base (k + 1) "size_of" spF []) : Has P w K mg base (k + 2) "size_of" (spSize n) [] := by
  refine has_of F sc_size_of (fun _ _ _ _ _ _ us hl => match us, hl with | [_, _], _ => rfl) ?_ ?_
  · rintro _ _ _ _ ⟨v, y, rfl, _⟩; rfl
  · rintro f cdv A outer s H vs Q E hr ⟨v, y, rfl, hv, hn, kk⟩
    obtain ⟨p, x, form, args, rfl, vw⟩ := hv.view T
    have htp := vw.h
    refine ⟨_, pss_cons (ps_if (pt_cmpR op_eq (pe_ix ix_tup (pv 0) (pe_int) (fun _ _ => rfl)) (pe_str) (nomark _)) (pss_never) (pss_nil))
      (pss_cons (ps_if (pt_cmpR op_eq (pe_ix ix_tup (pv 0) (pe_int) (fun _ _ => rfl)) (pe_str) (nomark _)) (pss_never) (pss_nil))
      (pss_one (ps_ret (pe_op op_add (pe_int) (pe_callB (cr_sum rfl) (by rfl) T.f_sum bt_sum (pa_cons (pe_lc (own := [("part", 3)]) (g := (gName 3)) rfl sc_size_of.nd (pi_list (pe_c G_parts_of (hr.mono (by omega)) (by rfl) (pa_cons (pv 0) (pa_nil)))) (blkOk_by (own := [("part", 3)]) (N := nm_size_of) (sc := defScope s_size_of) (by decide +kernel)) (fun _ _ _ _ _ => pg_name (i := 3) sc_size_of.nd rfl (Or.inl rfl)) (fun _ _ _ _ _ => pts_nil) (fun _ _ _ _ _ => pe_c G_size_of (hr.mono (by omega)) (by rfl) (pa_cons (pv 3) (pa_cons (pv 1) (pa_nil))))) (pa_nil))))))), ?_⟩
    walk_at "rd"
    try refine ite_no (fun z => vw.nn (V.str.inj z)) ?_
    walk_at "rd"
    try refine ite_no (fun z => vw.nl (V.str.inj z)) ?_
    walk_at "rd"
    refine ⟨_, n, _, _, _, rfl, vw, fun l H1 e1 hl0 hl => ?_⟩
    have hus : ∀ u ∈ pickF form.cps.toList args, ∃ m, n = m + 1 ∧ FdP H1 m u := fun u hu => let ⟨m, e, h⟩ := vw.part hu; ⟨m, e, h.mono (.ex e1)⟩
    have hlen : (pickF form.cps.toList args).length ≤ 4 := Nat.le_trans (pickF_len _ _) vw.four
    generalize pickF form.cps.toList args = us at hl hus hlen
    walk_at "rd"
    refine ⟨⟨us, Evl.sq_of hl⟩, ?_⟩
    intro d hd
    have hnd : H d = none := e1.fr hd
    have ndl : l ≠ d := ne_of_none hl hd
    refine lc_list (K := K) (a := l) (xs := us) (fun i H' => Here (Ex H1 H' ∧ ∃ ns : List Int, H' d = some (.lst (ns.map V.int)) ∧ ns.length = i ∧ (∀ k ∈ ns, 0 ≤ k ∧ ∀ m, n = m + 1 → k ≤ szB m) ∧ (0 < i → ∃ m, n = m + 1))) ?_ (fun i H' _ hh => sl_ex hh.get.1 (Evl.sq_of hl)) ?_ ?_
    · exact .it ⟨by walk_at "ex", [], upd_same, rfl, (fun _ z => nomatch z), fun z => absurd z (Nat.lt_irrefl _)⟩
    · intro i u H' hu hh
      obtain ⟨h2, ns, h3, h4, h5, _⟩ := hh.get
      obtain ⟨m, em, hf⟩ := hus u (List.mem_of_getElem? hu)
      have hi : i < us.length := (List.getElem?_eq_some_iff.mp hu).1
      walk_at "rd"
      refine hs m em _ _ _ _ ⟨_, _, rfl, hf.mono (.ex h2), by omega, fun k H2 e2 k0 k1 => ?_⟩
      refine ⟨_, e2 _ _ h3, Evl.sz_lt (by rw [List.length_map]; omega), .it ⟨?_, ns ++ [k], by rw [List.map_append]; exact upd_same, by simp; omega, ?_, fun _ => ⟨m, em⟩⟩⟩
      · exact Ex.mu (h2.tr e2) hd
      · intro k' hk'
        rcases List.mem_append.mp hk' with h | h
        · exact h5 k' h
        · rw [List.mem_singleton.mp h]; exact ⟨k0, fun m' em' => by have e : m' = m := (by omega); rw [e]; exact k1⟩
    · intro H' hh
      obtain ⟨h2, ns, h3, h4, h5, h6⟩ := hh.get
      walk_at "rd"
      refine ⟨d, ns, rfl, Evl.sq_of h3, ?_⟩
      walk_at "rd"
      have hsum : ∀ (l : List Int) (b : Int), 0 ≤ b → (∀ k ∈ l, 0 ≤ k ∧ k ≤ b) → 0 ≤ l.sum ∧ l.sum ≤ b * l.length := by
        intro l
        induction l with
        | nil => intro b hb h; simp
        | cons a l ih =>
          intro b hb h
          have h1 := ih b hb fun k hk => h k (List.mem_cons_of_mem _ hk)
          have h2 := h a (List.mem_cons_self ..)
          have e : b * ((a :: l).length : Int) = b * (l.length : Int) + b := by rw [List.length_cons, Int.natCast_succ, Int.mul_add, Int.mul_one]
          rw [List.sum_cons, e]
          omega
      have szp : ∀ m, 0 ≤ szB m := by
        intro m
        induction m with
        | zero => decide
        | succ m ih => show 0 ≤ 1 + 4 * szB m; omega
      rcases Nat.eq_zero_or_pos us.length with h0 | h0
      · rw [h0] at h4
        obtain rfl := List.eq_nil_of_length_eq_zero h4
        refine kk _ H' (e1.tr h2) (by simp) ?_
        cases n with
        | zero => decide
        | succ n => show _ ≤ 1 + 4 * szB n; have := szp n; simp; omega
      · obtain ⟨m, em⟩ := h6 h0
        obtain ⟨h7, h8⟩ := hsum ns (szB m) (szp m) fun k hk => ⟨(h5 k hk).1, (h5 k hk).2 m em⟩
        have h9 : szB m * (ns.length : Int) ≤ szB m * 4 := Int.mul_le_mul_of_nonneg_left (by omega) (szp m)
        refine kk _ H' (e1.tr h2) (by omega) ?_
        subst em
        show _ ≤ 1 + 4 * szB m
        omega
theorem h_size_of (T : Txt K w mg D) (F : DefAt K mg "size_of" s_size_of [] []) (G_parts_of : Has P w K mg base 1 "parts_of" (spParts K w D) []) : ∀ n, Has P w K mg base (n + 2) "size_of" (spSize n) []
  | 0 => b_size_of 0 0 T F G_parts_of (fun m h => nomatch h) (has_no F sc_size_of (fun _ _ _ _ _ _ us hl => match us, hl with | [_, _], _ => rfl))
  | n + 1 => b_size_of (n + 1) (n + 1) T F G_parts_of (fun m h vs H Q E q => by cases h; exact q) (h_size_of T F G_parts_of n)

end Kw
set_option Elab.async false
set_option linter.all false
set_option maxRecDepth 100000
set_option maxHeartbeats 2000000
namespace Kw
open PySem PySem.Spec PyProof.Rows L2
local macro_rules | `(tactic| walk_at "tp") => `(tactic| repeat (first | assumption | exact tp_up | refine tp_new (by assumption) ?_ | refine tp_lst (by assumption) ?_ | refine tp_ex (by assumption) ?_ | refine tp_mv (by assumption) ?_))
local macro_rules | `(tactic| walk_at "sq") => `(tactic| repeat (first | assumption | exact sq_up | exact sl_up | exact tp_sq (by assumption) | exact Evl.sq_of (by assumption) | refine sq_new (by assumption) ?_ | refine sl_new (by assumption) ?_ | refine sq_lst (by assumption) ?_ | refine sq_ex (by assumption) ?_ | refine sl_ex (by assumption) ?_ | refine sq_mv (by assumption) ?_))
local macro_rules | `(tactic| walk_at "ex") => `(tactic| repeat (first | assumption | exact Ex.rfl' _ | refine Ex.nw ?_ (by assumption) | refine Ex.tr ?_ (by assumption)))
local macro_rules | `(tactic| walk_at "cond") => `(tactic| first | decide | exact Or.inl ⟨by omega, by omega⟩ | exact Or.inr ⟨by omega, by omega⟩ | exact ⟨by omega, by omega⟩ | omega)
local macro_rules | `(tactic| walk_at "rd1") => `(tactic| first
  | refine ⟨_, rfl, ?_⟩
  | refine ⟨_, _, rfl, rfl, ?_⟩
  | refine ⟨_, _, rfl, ?_⟩
  | refine ⟨rfl, ?_⟩
  | refine ⟨_, _, _, rfl, ?_⟩
  | (refine' ⟨_, _, _, _, rfl, rfl, ?h, ?ha, ?q⟩; (case h => walk_at "sq"); (case ha => first | rfl | exact at_c0 _ _))
  | (refine' ⟨_, _, rfl, ?h, ?ha, ?q⟩; (case h => walk_at "sq"); (case ha => rfl))
  | (refine' ⟨_, _, rfl, Or.inr ?h, ?q⟩; (case h => walk_at "sq"))
  | (refine' ⟨_, _, rfl, Or.inl ?h, ?q⟩; (case h => walk_at "sq"))
  | refine ⟨_, _, _, _, _, rfl, .ty _, .base (.int _), kit_ty kit_ii, ?_⟩
  | refine ⟨_, _, _, _, _, rfl, .ty _, .base (.int _), kit_ty kit_ib, ?_⟩
  | refine ⟨_, _, _, _, _, rfl, .ty _, .base (.str _), kit_ty kit_ss, ?_⟩
  | refine ⟨_, _, _, _, _, rfl, .ty _, .base (.tup (by assumption)), kit_ty kit_tt, ?_⟩
  | with_reducible refine iteT ?_
  | with_reducible refine iteF ?_
  | refine ite_yes (by first | decide | omega) ?_
  | refine ite_no (by first | decide | omega) ?_
  | refine ite_no (fun z => absurd (V.str.inj z) (by assumption)) ?_
  | refine ite_nyes (by first | decide | omega) ?_
  | refine ite_nno (by first | decide | omega) ?_
  | (refine' And.intro (Or.inl ⟨rfl, _, ?h⟩) ?q; (case h => first | exact SqL.of (by first | assumption | exact upd_same) | walk_at "sq"))
  | (refine' And.intro ?h ?q; (case h => exact Evl.sz_of (Nat.le_of_ble_eq_true rfl)))
  | refine fun p (hp : (_ : Hp) p = none) => ?_
  | (refine' ⟨_, _, rfl, Or.inr ?h, rfl, rfl, ?q⟩; (case h => walk_at "sq"))
  | (refine' ⟨_, _, rfl, Or.inl ?h, rfl, rfl, ?q⟩; (case h => walk_at "sq"))
  | (refine' And.intro ?h ?q; (case h => walk_at "cond")))
local macro_rules | `(tactic| walk_at "rd") => `(tactic| repeat walk_at "rd1")
local macro_rules | `(tactic| walk_at "rs") => `(tactic| repeat' (first | walk_at "rd1" | refine ite2d (fun h => ?_) (fun h => ?_) | refine ite2n (fun h => ?_) (fun h => ?_) | refine ite2 (fun h => ?_) (fun h => ?_)))

variable {P : Program} {w : World} {K : PySem.W.Frag} {mg : Str → Option Value} {base : Heap} {D : Ad}
/-! ### steps -/
structure Stp where
  w : Str
  ns : List Int
def Stp.key (s : Stp) : List Key := Sum.inr s.w :: s.ns.map Sum.inl
def Stp.its (s : Stp) : List V := .str s.w :: s.ns.map V.int
theorem Stp.its_key (s : Stp) : s.key.map kV = s.its := by
  show V.str s.w :: (s.ns.map Sum.inl).map kV = _
  rw [List.map_map]; rfl
theorem inl_inj : ∀ {a b : List Int}, a.map (Sum.inl : Int → Key) = b.map Sum.inl → a = b
  | [], [], _ => rfl
  | [], _ :: _, h => by cases h
  | _ :: _, [], h => by cases h
  | x :: a, y :: b, h => by
    injection h with h1 h2
    injection h1 with h1
    rw [h1, inl_inj h2]
theorem Stp.key_inj {s t : Stp} (h : s.key = t.key) : s = t := by
  injection h with h1 h2
  injection h1 with h1
  have h3 := inl_inj h2
  cases s; cases t
  simp only at h1 h3
  rw [h1, h3]
/-- the steps found, the numbers known -/
structure Fk (H : Hp) (F M : Addr) (fs : List Stp) : Prop where
  ex : ∃ us kvs, H F = some (.lst us) ∧ Paired (fun u (s : Stp) => ∃ p, u = V.ref p ∧ Tp H p s.its) us fs ∧ H M = some (.dT kvs) ∧ kvs.length = fs.length ∧ (∀ s : Stp, ∀ v, valV kvs s.key = some v → ∃ i : Nat, v = .int i ∧ fs[i]? = some s)
theorem pair_tst {H H' : Hp} (e : Tst H H') : ∀ {us : List V} {fs : List Stp}, Paired (fun u (s : Stp) => ∃ p, u = V.ref p ∧ Tp H p s.its) us fs → Paired (fun u (s : Stp) => ∃ p, u = V.ref p ∧ Tp H' p s.its) us fs
  | _, _, .nil => .nil
  | _, _, .cons ⟨p, h1, h2⟩ t => .cons ⟨p, h1, e _ _ h2⟩ (pair_tst e t)
theorem pair_len {α β : Type} {R : α → β → Prop} : ∀ {us : List α} {fs : List β}, Paired R us fs → us.length = fs.length
  | _, _, .nil => rfl
  | _, _, .cons _ t => congrArg (· + 1) (pair_len t)
theorem pair_snoc {α β : Type} {R : α → β → Prop} : ∀ {us : List α} {fs : List β} {u : α} {f : β}, Paired R us fs → R u f → Paired R (us ++ [u]) (fs ++ [f])
  | _, _, _, _, .nil, h => .cons h .nil
  | _, _, _, _, .cons a t, h => .cons a (pair_snoc t h)
theorem pair_get {α β : Type} {R : α → β → Prop} : ∀ {us : List α} {fs : List β} {i : Nat} {u : α}, Paired R us fs → us[i]? = some u → ∃ f, fs[i]? = some f ∧ R u f
  | _, _, 0, _, .cons a t, h => ⟨_, rfl, by cases h; exact a⟩
  | _, _, i + 1, _, .cons a t, h => let ⟨f, b, c⟩ := pair_get (i := i) t (by simpa using h); ⟨f, by simpa using b, c⟩
  | _, _, i, _, .nil, h => by simp at h
theorem pair_get' {α β : Type} {R : α → β → Prop} : ∀ {us : List α} {fs : List β} {i : Nat} {f : β}, Paired R us fs → fs[i]? = some f → ∃ u, us[i]? = some u ∧ R u f
  | _, _, 0, _, .cons a t, h => ⟨_, rfl, by cases h; exact a⟩
  | _, _, i + 1, _, .cons a t, h => let ⟨f, b, c⟩ := pair_get' (i := i) t (by simpa using h); ⟨f, by simpa using b, c⟩
  | _, _, i, _, .nil, h => by simp at h
/-- all stands but what is at F, at M -/
def Ex2 (F M : Addr) (H H' : Hp) : Prop := ∀ b o, H b = some o → b ≠ F → b ≠ M → H' b = some o
theorem Ex2.rf {F M : Addr} (H : Hp) : Ex2 F M H H := fun _ _ h _ _ => h
theorem Ex2.tr {F M : Addr} {H H1 H2 : Hp} (a : Ex2 F M H H1) (b : Ex2 F M H1 H2) : Ex2 F M H H2 := fun x o h n1 n2 => b x o (a x o h n1 n2) n1 n2
theorem Ex2.ex {F M : Addr} {H H1 : Hp} (a : Ex H H1) : Ex2 F M H H1 := fun x o h _ _ => a x o h
theorem Fk.fne {H : Hp} {F M p : Addr} {fs : List Stp} (k : Fk H F M fs) (h : H p = none) : p ≠ F ∧ p ≠ M := by
  obtain ⟨us, kvs, h1, _, h3, _⟩ := k.ex
  exact ⟨(ne_of_none h1 h).symm, (ne_of_none h3 h).symm⟩
theorem Fk.tne {H : Hp} {F M p : Addr} {fs : List Stp} {xs : List V} (k : Fk H F M fs) (h : Tp H p xs) : p ≠ F ∧ p ≠ M := by
  obtain ⟨us, kvs, h1, _, h3, _⟩ := k.ex
  refine ⟨fun e => ?_, fun e => ?_⟩
  · subst e; cases h1.symm.trans h
  · subst e; cases h3.symm.trans h
theorem Fk.tst {H H' : Hp} {F M : Addr} {fs : List Stp} (k : Fk H F M fs) (e : Ex2 F M H H') : Tst H H' := fun p xs h => e p _ h (k.tne h).1 (k.tne h).2
theorem Fk.mono {H H' : Hp} {F M : Addr} {fs : List Stp} (k : Fk H F M fs) (e : Ex H H') : Fk H' F M fs := by
  obtain ⟨us, kvs, h1, h2, h3, h4⟩ := k.ex
  exact ⟨us, kvs, e _ _ h1, pair_tst (.ex e) h2, e _ _ h3, h4⟩
/-- fresh in the end, fresh before -/
theorem Ex2.fr {F M p : Addr} {H H1 : Hp} {fs fs' : List Stp} (a : Ex2 F M H H1) (k : Fk H F M fs) (k' : Fk H1 F M fs') (h : H1 p = none) : H p = none := by
  cases e : H p with
  | none => rfl
  | some o =>
    have := a p o e (k'.fne h).1 (k'.fne h).2
    rw [h] at this; cases this
def spPut : Sp := fun vs H Q _ => ∃ (F M p : Addr) (s : Stp) (fs : List Stp), vs = [.ref F, .ref M, .ref p] ∧ Fk H F M fs ∧ Tp H p s.its ∧ fs.length < 5000 ∧
  ∀ (i : Nat) (fs' : List Stp) (H' : Hp), Fk H' F M fs' → (fs' = fs ∨ fs' = fs ++ [s]) → fs'[i]? = some s → Ex2 F M H H' → Q (.int i) H'
theorem h_put (F : DefAt K mg "put" s_put [] []) (T : Txt K w mg D) : Has P w K mg base 1 "put" spPut [] := by
  refine has_of F sc_put (fun _ _ _ _ _ _ us hl => match us, hl with | [_, _, _], _ => rfl) ?_ ?_
  · rintro _ _ _ _ ⟨_, _, _, _, _, rfl, _⟩; rfl
  · rintro f cdv A outer s0 H vs Q E hr ⟨F, M, p, s, fs, rfl, hk, hp, hl, kk⟩
    have hu := hu_of hr
    obtain ⟨us, kvs, hF, hus, hM, hkl, hval⟩ := hk.ex
    have hpk : H p = some (.tup (s.key.map kV)) := by rw [s.its_key]; exact hp
    refine ⟨_, pss_cons (ps_if (pt_cmp (pc_dnotin hu (pv 2) (pv 1)) (by rfl)) (pss_cons (ps_dput hu (pv 1) (pv 2) (pe_callB call_len_seq (by rfl) T.f_len bt_len (pa_cons (pv 0) (pa_nil))) rfl)
      (pss_one (ps_expr (pe_bm PySem.F.plainAttrs_list PySem.F.slot_list_append PySem.F.type_list_append mt_append (pv 0) (pa_cons (pv 2) (pa_nil)))))) (pss_nil))
      (pss_one (ps_ret (pe_dget hu (pv 1) (pv 2) (fun _ _ => rfl)))), ?_⟩
    walk_at "rd"
    refine ⟨M, valV kvs s.key, rfl, .inr ⟨kvs, s.key, p, .inl hM, rfl, hpk, rfl⟩, ?_⟩
    cases hv : valV kvs s.key with
    | some v =>
      obtain ⟨i, rfl, hi⟩ := hval s v hv
      walk_at "rd"
      refine ⟨M, .int i, rfl, .inr ⟨kvs, s.key, p, .inl hM, rfl, hpk, hv.symm⟩, ?_⟩
      exact kk i fs H hk (.inl rfl) hi (Ex2.rf H)
    | none =>
      walk_at "rd"
      have hul := pair_len hus
      refine ⟨M, _, rfl, .inr ⟨kvs, s.key, p, hM, rfl, hpk, by rw [sizeLine_eq]; omega, rfl⟩, ?_⟩
      rw [putK_new _ hv]
      have nFM : F ≠ M := fun e => by rw [e] at hF; cases hF.symm.trans hM
      have hF1 : (upd H M (.dT (kvs ++ [(s.key, .int us.length)]))) F = some (.lst us) := by rw [upd_ne nFM]; exact hF
      walk_at "rd"
      refine ⟨F, us, _, rfl, rfl, hF1, Evl.sz_lt (by omega), ?_⟩
      have hM1 : (upd (upd H M (.dT (kvs ++ [(s.key, .int us.length)]))) F (.lst (us ++ [.ref p]))) M = some (.dT (kvs ++ [(s.key, .int us.length)])) := by rw [upd_ne nFM.symm, upd_same]
      have hF2 : (upd (upd H M (.dT (kvs ++ [(s.key, .int us.length)]))) F (.lst (us ++ [.ref p]))) F = some (.lst (us ++ [.ref p])) := upd_same
      have e2 : Ex2 F M H (upd (upd H M (.dT (kvs ++ [(s.key, .int us.length)]))) F (.lst (us ++ [.ref p]))) := fun b o h n1 n2 => by rw [upd_ne n1, upd_ne n2]; exact h
      have hv2 : ∀ s' : Stp, valV (kvs ++ [(s.key, V.int us.length)]) s'.key = if s'.key = s.key then some (.int us.length) else valV kvs s'.key := fun s' => valV_snoc s.key s'.key _ kvs hv
      generalize hH2 : upd (upd H M (.dT (kvs ++ [(s.key, .int us.length)]))) F (.lst (us ++ [.ref p])) = H2 at hM1 hF2 e2
      have hp2 : H2 p = some (.tup (s.key.map kV)) := (hk.tst e2) p _ hpk
      walk_at "rd"
      refine ⟨M, .int us.length, rfl, .inr ⟨_, s.key, p, .inl hM1, rfl, hp2, ?_⟩, ?_⟩
      · rw [hv2, if_pos rfl]
      · refine kk us.length (fs ++ [s]) H2 ⟨_, _, hF2, pair_snoc (pair_tst (hk.tst e2) hus) ⟨p, rfl, hk.tst e2 p _ hp⟩, hM1, by simp [hkl], ?_⟩ (.inr rfl) (by rw [hul]; simp) e2
        intro s' v hv'
        rw [hv2] at hv'
        split at hv'
        · rename_i e
          cases hv'
          exact ⟨us.length, rfl, by rw [Stp.key_inj e, hul]; simp⟩
        · obtain ⟨i, e, hi⟩ := hval s' v hv'
          exact ⟨i, e, by rw [List.getElem?_append_left (List.getElem?_eq_some_iff.mp hi).1]; exact hi⟩
/-! ### the rank of a step -/
inductive Rk (fs : List Stp) : Nat → Nat → Prop
  | whole {r i : Nat} {k : Int} (h : fs[i]? = some ⟨"whole", [k]⟩) (k0 : -10 ≤ k) (k1 : k ≤ 10) : Rk fs r i
  | x {r i : Nat} {d : Int} (h : fs[i]? = some ⟨"x", [d]⟩) (d0 : -100 ≤ d) (d1 : d ≤ 100) : Rk fs r i
  | z {r i : Nat} {d : Int} (h : fs[i]? = some ⟨"z", [d]⟩) (d0 : -100 ≤ d) (d1 : d ≤ 100) : Rk fs r i
  | noise {r i : Nat} {a b c d : Int} (h : fs[i]? = some ⟨"noise", [a, b, c, d]⟩) (a0 : 0 ≤ a) (a1 : a ≤ 8) (b0 : 0 ≤ b) (b1 : b ≤ 3) (c0 : -100 ≤ c) (c1 : c ≤ 100) (d0 : -100 ≤ d) (d1 : d ≤ 100) : Rk fs r i
  | over {r i j : Nat} {d : Int} (h : fs[i]? = some ⟨"over", [(j : Int), d]⟩) (hj : Rk fs r j) (l : j < i) (d0 : 1 ≤ d) (d1 : d ≤ 10000) : Rk fs (r + 1) i
  | bin {r i j k : Nat} {x : Str} (hx : Bin5 x) (h : fs[i]? = some ⟨x, [(j : Int), (k : Int)]⟩) (hj : Rk fs r j) (hk : Rk fs r k) (l : j < i) (m : k < i) : Rk fs (r + 1) i
  | lt4 {r i j k a b : Nat} (h : fs[i]? = some ⟨"below", [(j : Int), (k : Int), (a : Int), (b : Int)]⟩) (hj : Rk fs r j) (hk : Rk fs r k) (ha : Rk fs r a) (hb : Rk fs r b) (l : j < i) (m : k < i) (n : a < i) (o : b < i) : Rk fs (r + 1) i
theorem get_app {α : Type} {fs gs : List α} {i : Nat} {a : α} (h : fs[i]? = some a) : (fs ++ gs)[i]? = some a := by
  rw [List.getElem?_append_left (List.getElem?_eq_some_iff.mp h).1]; exact h
theorem Rk.app {fs gs : List Stp} : ∀ {r i : Nat}, Rk fs r i → Rk (fs ++ gs) r i
  | _, _, .whole h a b => .whole (get_app h) a b
  | _, _, .x h a b => .x (get_app h) a b
  | _, _, .z h a b => .z (get_app h) a b
  | _, _, .noise h a b c d e f g i => .noise (get_app h) a b c d e f g i
  | _, _, .over h hj l a b => .over (get_app h) hj.app l a b
  | _, _, .bin hx h hj hk l m => .bin hx (get_app h) hj.app hk.app l m
  | _, _, .lt4 h hj hk ha hb l m n o => .lt4 (get_app h) hj.app hk.app ha.app hb.app l m n o
theorem Rk.up {fs : List Stp} : ∀ {r q i : Nat}, Rk fs r i → r ≤ q → Rk fs q i
  | _, _, _, .whole h a b, _ => .whole h a b
  | _, _, _, .x h a b, _ => .x h a b
  | _, _, _, .z h a b, _ => .z h a b
  | _, _, _, .noise h a b c d e f g i, _ => .noise h a b c d e f g i
  | _, q + 1, _, .over h hj l a b, le => .over h (hj.up (Nat.le_of_succ_le_succ le)) l a b
  | _, q + 1, _, .bin hx h hj hk l m, le => .bin hx h (hj.up (Nat.le_of_succ_le_succ le)) (hk.up (Nat.le_of_succ_le_succ le)) l m
  | _, q + 1, _, .lt4 h hj hk ha hb l m n o, le => .lt4 h (hj.up (Nat.le_of_succ_le_succ le)) (hk.up (Nat.le_of_succ_le_succ le)) (ha.up (Nat.le_of_succ_le_succ le)) (hb.up (Nat.le_of_succ_le_succ le)) l m n o
theorem Rk.lt {fs : List Stp} {r i : Nat} (h : Rk fs r i) : i < fs.length := by
  cases h with
  | whole h => exact (List.getElem?_eq_some_iff.mp h).1
  | x h => exact (List.getElem?_eq_some_iff.mp h).1
  | z h => exact (List.getElem?_eq_some_iff.mp h).1
  | noise h => exact (List.getElem?_eq_some_iff.mp h).1
  | over h => exact (List.getElem?_eq_some_iff.mp h).1
  | bin _ h => exact (List.getElem?_eq_some_iff.mp h).1
  | lt4 h => exact (List.getElem?_eq_some_iff.mp h).1
/-- every step has rank R at most -/
def AllR (R : Nat) (fs : List Stp) : Prop := ∀ i, i < fs.length → Rk fs R i
theorem AllR.put {R : Nat} {fs fs' : List Stp} {s : Stp} {i : Nat} (h : AllR R fs) (e : fs' = fs ∨ fs' = fs ++ [s]) (hi : fs'[i]? = some s) (hs : ∀ j, fs'[j]? = some s → (j = i ∨ j = fs.length) → Rk fs' R j) : AllR R fs' := by
  intro j hj
  rcases e with e | e
  · rw [e]; exact h j (by rw [← e]; exact hj)
  · by_cases c : j < fs.length
    · rw [e]; exact (h j c).app
    · have : j = fs.length := by rw [e] at hj; simp at hj; omega
      exact hs j (by rw [this, e]; simp) (.inr this)
/-- how many steps -/
def szN : Nat → Nat
  | 0 => 1
  | n + 1 => 1 + 4 * szN n
def spInto (n R : Nat) : Sp := fun vs H Q _ => ∃ (F M q : Addr) (v y : V) (fs : List Stp) (dx dz : Int), vs = [.ref F, .ref M, v, .ref q, y] ∧ Fk H F M fs ∧ FdP H n v ∧ Tp H q [.int dx, .int dz] ∧ n ≤ R ∧ n ≤ 5 ∧ fs.length + szN n ≤ 4000 ∧ AllR R fs ∧
  (-100 + 10 * (n : Int) ≤ dx ∧ dx ≤ 100 - 10 * (n : Int) ∧ -100 + 10 * (n : Int) ≤ dz ∧ dz ≤ 100 - 10 * (n : Int)) ∧
  ∀ (i : Nat) (gs : List Stp) (H' : Hp), Fk H' F M (fs ++ gs) → gs.length ≤ szN n → Rk (fs ++ gs) n i → AllR R (fs ++ gs) → Ex2 F M H H' → Q (.int i) H'

end Kw
set_option Elab.async false
set_option linter.all false
set_option maxRecDepth 100000
set_option maxHeartbeats 2000000
namespace Kw
open PySem PySem.Spec PyProof.Rows L2
local macro_rules | `(tactic| walk_at "tp") => `(tactic| repeat (first | assumption | exact tp_up | refine tp_new (by assumption) ?_ | refine tp_lst (by assumption) ?_ | refine tp_ex (by assumption) ?_ | refine tp_mv (by assumption) ?_))
local macro_rules | `(tactic| walk_at "sq") => `(tactic| repeat (first | assumption | exact sq_up | exact sl_up | exact tp_sq (by assumption) | exact Evl.sq_of (by assumption) | refine sq_new (by assumption) ?_ | refine sl_new (by assumption) ?_ | refine sq_lst (by assumption) ?_ | refine sq_ex (by assumption) ?_ | refine sl_ex (by assumption) ?_ | refine sq_mv (by assumption) ?_))
local macro_rules | `(tactic| walk_at "ex") => `(tactic| repeat (first | assumption | exact Ex.rfl' _ | refine Ex.nw ?_ (by assumption) | refine Ex.tr ?_ (by assumption)))
local macro_rules | `(tactic| walk_at "cond") => `(tactic| first | decide | exact Or.inl ⟨by omega, by omega⟩ | exact Or.inr ⟨by omega, by omega⟩ | exact ⟨by omega, by omega⟩ | omega)
local macro_rules | `(tactic| walk_at "rd1") => `(tactic| first
  | refine ⟨_, rfl, ?_⟩
  | refine ⟨_, _, rfl, rfl, ?_⟩
  | refine ⟨_, _, rfl, ?_⟩
  | refine ⟨rfl, ?_⟩
  | refine ⟨_, _, _, rfl, ?_⟩
  | (refine' ⟨_, _, _, _, rfl, rfl, ?h, ?ha, ?q⟩; (case h => walk_at "sq"); (case ha => first | rfl | exact at_c0 _ _))
  | (refine' ⟨_, _, rfl, ?h, ?ha, ?q⟩; (case h => walk_at "sq"); (case ha => rfl))
  | (refine' ⟨_, _, rfl, Or.inr ?h, ?q⟩; (case h => walk_at "sq"))
  | (refine' ⟨_, _, rfl, Or.inl ?h, ?q⟩; (case h => walk_at "sq"))
  | refine ⟨_, _, _, _, _, rfl, .ty _, .base (.int _), kit_ty kit_ii, ?_⟩
  | refine ⟨_, _, _, _, _, rfl, .ty _, .base (.int _), kit_ty kit_ib, ?_⟩
  | refine ⟨_, _, _, _, _, rfl, .ty _, .base (.str _), kit_ty kit_ss, ?_⟩
  | refine ⟨_, _, _, _, _, rfl, .ty _, .base (.tup (by assumption)), kit_ty kit_tt, ?_⟩
  | with_reducible refine iteT ?_
  | with_reducible refine iteF ?_
  | refine ite_yes (by first | decide | omega) ?_
  | refine ite_no (by first | decide | omega) ?_
  | refine ite_no (fun z => absurd (V.str.inj z) (by assumption)) ?_
  | refine ite_nyes (by first | decide | omega) ?_
  | refine ite_nno (by first | decide | omega) ?_
  | (refine' And.intro (Or.inl ⟨rfl, _, ?h⟩) ?q; (case h => first | exact SqL.of (by first | assumption | exact upd_same) | walk_at "sq"))
  | (refine' And.intro ?h ?q; (case h => exact Evl.sz_of (Nat.le_of_ble_eq_true rfl)))
  | refine fun p (hp : (_ : Hp) p = none) => ?_
  | (refine' ⟨_, _, rfl, Or.inr ?h, rfl, rfl, ?q⟩; (case h => walk_at "sq"))
  | (refine' ⟨_, _, rfl, Or.inl ?h, rfl, rfl, ?q⟩; (case h => walk_at "sq"))
  | (refine' And.intro ?h ?q; (case h => walk_at "cond")))
local macro_rules | `(tactic| walk_at "rd") => `(tactic| repeat walk_at "rd1")
local macro_rules | `(tactic| walk_at "rs") => `(tactic| repeat' (first | walk_at "rd1" | refine ite2d (fun h => ?_) (fun h => ?_) | refine ite2n (fun h => ?_) (fun h => ?_) | refine ite2 (fun h => ?_) (fun h => ?_)))

variable {P : Program} {w : World} {K : PySem.W.Frag} {mg : Str → Option Value} {base : Heap} {D : Ad}
theorem kd_uniq {a : Addr} {x f g : Str} (h : KDct K w a x (.str f)) (h' : KDct K w a x (.str g)) : f = g := by
  obtain ⟨es, n, u, h1, _, h3, t, h4⟩ := h
  obtain ⟨es', n', u', h1', _, h3', t', h4'⟩ := h'
  rw [h3] at h3'
  subst h4 h4'
  cases h3'
  rfl
theorem bin_ne {x : Str} (h : Bin5 x) : x ≠ "name" ∧ x ≠ "let" ∧ x ≠ "shift" ∧ x ≠ "whole" ∧ x ≠ "x" ∧ x ≠ "z" ∧ x ≠ "noise" ∧ x ≠ "over" ∧ x ≠ "below" := by
  cases h <;> decide
theorem inv_over {fs : List Stp} {r i j : Nat} {d : Int} (hr : Rk fs r i) (e : fs[i]? = some ⟨"over", [(j : Int), d]⟩) : j < i := by
  cases hr with
  | whole h => rw [h] at e; injection e with e; injection e with e _; exact absurd e (by decide)
  | x h => rw [h] at e; injection e with e; injection e with e _; exact absurd e (by decide)
  | z h => rw [h] at e; injection e with e; injection e with e _; exact absurd e (by decide)
  | noise h => rw [h] at e; injection e with e; injection e with e _; exact absurd e (by decide)
  | over h _ l => rw [h] at e; injection e with e; injection e with _ e; injection e with e _; omega
  | bin hx h => rw [h] at e; injection e with e; injection e with e _; exact absurd e (bin_ne hx).2.2.2.2.2.2.2.1
  | lt4 h => rw [h] at e; injection e with e; injection e with e _; exact absurd e (by decide)
theorem inv_bin {fs : List Stp} {r i j k : Nat} {x : Str} (hx : Bin5 x) (hr : Rk fs r i) (e : fs[i]? = some ⟨x, [(j : Int), (k : Int)]⟩) : j < i ∧ k < i := by
  have n := bin_ne hx
  cases hr with
  | whole h => rw [h] at e; injection e with e; injection e with e _; exact absurd e.symm n.2.2.2.1
  | x h => rw [h] at e; injection e with e; injection e with e _; exact absurd e.symm n.2.2.2.2.1
  | z h => rw [h] at e; injection e with e; injection e with e _; exact absurd e.symm n.2.2.2.2.2.1
  | noise h => rw [h] at e; injection e with e; injection e with e _; exact absurd e.symm n.2.2.2.2.2.2.1
  | over h _ l => rw [h] at e; injection e with e; injection e with e _; exact absurd e.symm n.2.2.2.2.2.2.2.1
  | bin hx h _ _ l m => rw [h] at e; injection e with e; injection e with _ e; injection e with e1 e; injection e with e2 _; omega
  | lt4 h => rw [h] at e; injection e with e; injection e with e _; exact absurd e.symm n.2.2.2.2.2.2.2.2
theorem inv_lt4 {fs : List Stp} {r i j k a b : Nat} (hr : Rk fs r i) (e : fs[i]? = some ⟨"below", [(j : Int), (k : Int), (a : Int), (b : Int)]⟩) : (j < i ∧ k < i) ∧ a < i ∧ b < i := by
  cases hr with
  | whole h => rw [h] at e; injection e with e; injection e with e _; exact absurd e (by decide)
  | x h => rw [h] at e; injection e with e; injection e with e _; exact absurd e (by decide)
  | z h => rw [h] at e; injection e with e; injection e with e _; exact absurd e (by decide)
  | noise h => rw [h] at e; injection e with e; injection e with e _; exact absurd e (by decide)
  | over h _ l => rw [h] at e; injection e with e; injection e with e _; exact absurd e (by decide)
  | bin hx h => rw [h] at e; injection e with e; injection e with e _; exact absurd e (bin_ne hx).2.2.2.2.2.2.2.2
  | lt4 h _ _ _ _ l m n o => rw [h] at e; injection e with e; injection e with _ e; injection e with e1 e; injection e with e2 e; injection e with e3 e; injection e with e4 _; omega
theorem put_all {R n : Nat} {fs fs' : List Stp} {s : Stp} {i : Nat} (hall : AllR R fs) (hn : n ≤ R) (e : fs' = fs ∨ fs' = fs ++ [s]) (hi : fs'[i]? = some s) (L : Nat → Prop) (hold : ∀ j, j < fs.length → fs[j]? = some s → L j) (hnew : L fs.length) (key : ∀ j, fs'[j]? = some s → L j → Rk fs' n j) :
    Rk fs' n i ∧ AllR R fs' := by
  have hL : ∀ j, fs'[j]? = some s → L j := by
    intro j hj
    rcases e with e | e
    · rw [e] at hj
      exact hold j (List.getElem?_eq_some_iff.mp hj).1 hj
    · by_cases c : j < fs.length
      · rw [e, List.getElem?_append_left c] at hj
        exact hold j c hj
      · have h1 := (List.getElem?_eq_some_iff.mp hj).1
        rw [e] at h1
        simp at h1
        rw [show j = fs.length by omega]; exact hnew
  refine ⟨key i hi (hL i hi), fun j hj => ?_⟩
  rcases e with e | e
  · rw [e]; exact hall j (by rw [← e]; exact hj)
  · by_cases c : j < fs.length
    · rw [e]; exact (hall j c).app
    · have h1 : j = fs.length := by rw [e] at hj; simp at hj; omega
      have h2 : fs'[j]? = some s := by rw [h1, e]; simp
      exact (key j h2 (hL j h2)).up hn
/-- an inner field: its parts, its step -/
structure NodeV (H : Hp) (n : Nat) (p : Addr) (x : Str) (args us : List V) (tl : List Int) : Prop where
  ex : ∃ m, n = m + 1 ∧ (∀ u ∈ us, FdP H m u) ∧ us.length ≤ 4 ∧ ((x = "over" ∧ ∃ d u, args = [u, .int d] ∧ tl = [d]) ∨ (x ≠ "over" ∧ tl = [])) ∧
    ∀ (fs : List Stp) (R : Nat) (ix : List Nat), AllR R fs → m + 1 ≤ R → ix.length = us.length → (∀ j ∈ ix, Rk fs m j) → ∀ (fs' : List Stp) (i : Nat), (fs' = fs ∨ fs' = fs ++ [⟨x, ix.map Int.ofNat ++ tl⟩]) → fs'[i]? = some ⟨x, ix.map Int.ofNat ++ tl⟩ → Rk fs' (m + 1) i ∧ AllR R fs'
  n1 : x ≠ "name"
  n2 : x ≠ "let"
  n3 : x ≠ "shift"
  n4 : x ≠ "whole"
  n5 : x ≠ "x"
  n6 : x ≠ "z"
  n7 : x ≠ "noise"
theorem app_or {fs fs' : List Stp} {s : Stp} (e : fs' = fs ∨ fs' = fs ++ [s]) {r j : Nat} (h : Rk fs r j) : Rk fs' r j := by
  rcases e with e | e
  · rw [e]; exact h
  · rw [e]; exact h.app
theorem node_over {H : Hp} {n : Nat} {p : Addr} {u : V} {d : Int} (hu : FdP H n u) (d0 : 1 ≤ d) (d1 : d ≤ 10000) : NodeV H (n + 1) p "over" [u, .int d] [u] [d] where
  ex := by
    refine ⟨n, rfl, fun u' h => by rw [List.mem_singleton.mp h]; exact hu, by simp, .inl ⟨rfl, d, u, rfl, rfl⟩, ?_⟩
    intro fs R ix hall hR hl hix fs' i e hi
    match ix, hl with
    | [j], _ =>
      have hj := hix j (List.mem_singleton.mpr rfl)
      exact put_all hall hR e hi (fun i' => j < i') (fun i' h1 h2 => inv_over (hall i' h1) h2) hj.lt fun i' h1 h2 => .over h1 (app_or e hj) h2 d0 d1
  n1 := by decide
  n2 := by decide
  n3 := by decide
  n4 := by decide
  n5 := by decide
  n6 := by decide
  n7 := by decide
theorem node_bin {H : Hp} {n : Nat} {p : Addr} {x : Str} {u v : V} (hx : Bin5 x) (hu : FdP H n u) (hv : FdP H n v) : NodeV H (n + 1) p x [u, v] [u, v] [] where
  ex := by
    refine ⟨n, rfl, fun u' h => ?_, by simp, .inr ⟨(bin_ne hx).2.2.2.2.2.2.2.1, rfl⟩, ?_⟩
    · rcases List.mem_cons.mp h with e | h
      · rw [e]; exact hu
      · rw [List.mem_singleton.mp h]; exact hv
    intro fs R ix hall hR hl hix fs' i e hi
    match ix, hl with
    | [j, k], _ =>
      have hj := hix j (by simp)
      have hk := hix k (by simp)
      exact put_all hall hR e hi (fun i' => j < i' ∧ k < i') (fun i' h1 h2 => inv_bin hx (hall i' h1) h2) ⟨hj.lt, hk.lt⟩ fun i' h1 h2 => .bin hx h1 (app_or e hj) (app_or e hk) h2.1 h2.2
  n1 := (bin_ne hx).1
  n2 := (bin_ne hx).2.1
  n3 := (bin_ne hx).2.2.1
  n4 := (bin_ne hx).2.2.2.1
  n5 := (bin_ne hx).2.2.2.2.1
  n6 := (bin_ne hx).2.2.2.2.2.1
  n7 := (bin_ne hx).2.2.2.2.2.2.1
theorem node_lt4 {H : Hp} {n : Nat} {p : Addr} {u v s t : V} (hu : FdP H n u) (hv : FdP H n v) (hs : FdP H n s) (ht : FdP H n t) : NodeV H (n + 1) p "below" [u, v, s, t] [u, v, s, t] [] where
  ex := by
    refine ⟨n, rfl, fun u' h => ?_, by simp, .inr ⟨by decide, rfl⟩, ?_⟩
    · simp at h
      rcases h with rfl | rfl | rfl | rfl
      · exact hu
      · exact hv
      · exact hs
      · exact ht
    intro fs R ix hall hR hl hix fs' i e hi
    match ix, hl with
    | [j, k, a, b], _ =>
      have hj := hix j (by simp)
      have hk := hix k (by simp)
      have ha := hix a (by simp)
      have hb := hix b (by simp)
      exact put_all hall hR e hi (fun i' => (j < i' ∧ k < i') ∧ a < i' ∧ b < i') (fun i' h1 h2 => inv_lt4 (hall i' h1) h2) ⟨⟨hj.lt, hk.lt⟩, ha.lt, hb.lt⟩ fun i' h1 h2 => .lt4 h1 (app_or e hj) (app_or e hk) (app_or e ha) (app_or e hb) h2.1.1 h2.1.2 h2.2.1 h2.2.2
  n1 := by decide
  n2 := by decide
  n3 := by decide
  n4 := by decide
  n5 := by decide
  n6 := by decide
  n7 := by decide

end Kw
set_option Elab.async false
set_option linter.all false
set_option maxRecDepth 100000
set_option maxHeartbeats 2000000
namespace Kw
open PySem PySem.Spec PyProof.Rows L2
local macro_rules | `(tactic| walk_at "tp") => `(tactic| repeat (first | assumption | exact tp_up | refine tp_new (by assumption) ?_ | refine tp_lst (by assumption) ?_ | refine tp_ex (by assumption) ?_ | refine tp_mv (by assumption) ?_))
local macro_rules | `(tactic| walk_at "sq") => `(tactic| repeat (first | assumption | exact sq_up | exact sl_up | exact tp_sq (by assumption) | exact Evl.sq_of (by assumption) | refine sq_new (by assumption) ?_ | refine sl_new (by assumption) ?_ | refine sq_lst (by assumption) ?_ | refine sq_ex (by assumption) ?_ | refine sl_ex (by assumption) ?_ | refine sq_mv (by assumption) ?_))
local macro_rules | `(tactic| walk_at "ex") => `(tactic| repeat (first | assumption | exact Ex.rfl' _ | refine Ex.nw ?_ (by assumption) | refine Ex.tr ?_ (by assumption)))
local macro_rules | `(tactic| walk_at "cond") => `(tactic| first | decide | exact Or.inl ⟨by omega, by omega⟩ | exact Or.inr ⟨by omega, by omega⟩ | exact ⟨by omega, by omega⟩ | omega)
local macro_rules | `(tactic| walk_at "rd1") => `(tactic| first
  | refine ⟨_, rfl, ?_⟩
  | refine ⟨_, _, rfl, rfl, ?_⟩
  | refine ⟨_, _, rfl, ?_⟩
  | refine ⟨rfl, ?_⟩
  | refine ⟨_, _, _, rfl, ?_⟩
  | (refine' ⟨_, _, _, _, rfl, rfl, ?h, ?ha, ?q⟩; (case h => walk_at "sq"); (case ha => first | rfl | exact at_c0 _ _))
  | (refine' ⟨_, _, rfl, ?h, ?ha, ?q⟩; (case h => walk_at "sq"); (case ha => rfl))
  | (refine' ⟨_, _, rfl, Or.inr ?h, ?q⟩; (case h => walk_at "sq"))
  | (refine' ⟨_, _, rfl, Or.inl ?h, ?q⟩; (case h => walk_at "sq"))
  | refine ⟨_, _, _, _, _, rfl, .ty _, .base (.int _), kit_ty kit_ii, ?_⟩
  | refine ⟨_, _, _, _, _, rfl, .ty _, .base (.int _), kit_ty kit_ib, ?_⟩
  | refine ⟨_, _, _, _, _, rfl, .ty _, .base (.str _), kit_ty kit_ss, ?_⟩
  | refine ⟨_, _, _, _, _, rfl, .ty _, .base (.tup (by assumption)), kit_ty kit_tt, ?_⟩
  | with_reducible refine iteT ?_
  | with_reducible refine iteF ?_
  | refine ite_yes (by first | decide | omega) ?_
  | refine ite_no (by first | decide | omega) ?_
  | refine ite_no (fun z => absurd (V.str.inj z) (by assumption)) ?_
  | refine ite_nyes (by first | decide | omega) ?_
  | refine ite_nno (by first | decide | omega) ?_
  | (refine' And.intro (Or.inl ⟨rfl, _, ?h⟩) ?q; (case h => first | exact SqL.of (by first | assumption | exact upd_same) | walk_at "sq"))
  | (refine' And.intro ?h ?q; (case h => exact Evl.sz_of (Nat.le_of_ble_eq_true rfl)))
  | refine fun p (hp : (_ : Hp) p = none) => ?_
  | (refine' ⟨_, _, rfl, Or.inr ?h, rfl, rfl, ?q⟩; (case h => walk_at "sq"))
  | (refine' ⟨_, _, rfl, Or.inl ?h, rfl, rfl, ?q⟩; (case h => walk_at "sq"))
  | (refine' And.intro ?h ?q; (case h => walk_at "cond")))
local macro_rules | `(tactic| walk_at "rd") => `(tactic| repeat walk_at "rd1")
local macro_rules | `(tactic| walk_at "rs") => `(tactic| repeat' (first | walk_at "rd1" | refine ite2d (fun h => ?_) (fun h => ?_) | refine ite2n (fun h => ?_) (fun h => ?_) | refine ite2 (fun h => ?_) (fun h => ?_)))

variable {P : Program} {w : World} {K : PySem.W.Frag} {mg : Str → Option Value} {base : Heap} {D : Ad}
theorem FdP.node {H : Hp} (T : Txt K w mg D) {n : Nat} {v : V} (h : FdP H n v) :
    (∃ m p u a b, v = .ref p ∧ n = m + 1 ∧ Tp H p [.str "shift", .int a, .int b, u] ∧ FdP H m u ∧ -10 ≤ a ∧ a ≤ 10 ∧ -10 ≤ b ∧ b ≤ 10) ∨ (∃ p k, v = .ref p ∧ Tp H p [.str "whole", .int k] ∧ -10 ≤ k ∧ k ≤ 10) ∨ (∃ p, v = .ref p ∧ Tp H p [.str "x"]) ∨ (∃ p, v = .ref p ∧ Tp H p [.str "z"]) ∨
    (∃ p a b, v = .ref p ∧ Tp H p [.str "noise", .int a, .int b] ∧ 0 ≤ a ∧ a ≤ 8 ∧ 0 ≤ b ∧ b ≤ 3) ∨ ∃ p x form args tl, v = .ref p ∧ FdV K w D H n p x form args ∧ NodeV H n p x args (pickF form.cps.toList args) tl := by
  obtain ⟨p', x', form, args, ep, vw⟩ := h.view T
  cases h with
  | shift h hu a0 a1 b0 b1 => exact .inl ⟨_, _, _, _, _, rfl, rfl, h, hu, a0, a1, b0, b1⟩
  | whole h a b => exact .inr (.inl ⟨_, _, rfl, h, a, b⟩)
  | x h => exact .inr (.inr (.inl ⟨_, rfl, h⟩))
  | z h => exact .inr (.inr (.inr (.inl ⟨_, rfl, h⟩)))
  | noise h a b c d => exact .inr (.inr (.inr (.inr (.inl ⟨_, _, _, rfl, h, a, b, c, d⟩))))
  | over h hu d0 d1 =>
    cases ep
    have e := vw.h.symm.trans h
    injection e with e; injection e with e; injection e with e1 e2; injection e1 with e1
    subst e1 e2
    have ef := kd_uniq vw.k T.k_over
    subst ef
    exact .inr (.inr (.inr (.inr (.inr ⟨_, _, _, _, _, rfl, vw, node_over hu d0 d1⟩))))
  | bin hx h hu hv =>
    cases ep
    have e := vw.h.symm.trans h
    injection e with e; injection e with e; injection e with e1 e2; injection e1 with e1
    subst e1 e2
    have ef : form = "FF" := by
      cases hx
      · exact kd_uniq vw.k T.k_plus
      · exact kd_uniq vw.k T.k_less
      · exact kd_uniq vw.k T.k_times
      · exact kd_uniq vw.k T.k_least
      · exact kd_uniq vw.k T.k_most
    subst ef
    exact .inr (.inr (.inr (.inr (.inr ⟨_, _, _, _, _, rfl, vw, node_bin hx hu hv⟩))))
  | lt4 h hu hv hs ht =>
    cases ep
    have e := vw.h.symm.trans h
    injection e with e; injection e with e; injection e with e1 e2; injection e1 with e1
    subst e1 e2
    have ef := kd_uniq vw.k T.k_below
    subst ef
    exact .inr (.inr (.inr (.inr (.inr ⟨_, _, _, _, _, rfl, vw, node_lt4 hu hv hs ht⟩))))
theorem leaf_all {R n : Nat} {fs fs' : List Stp} {s : Stp} {i : Nat} (hall : AllR R fs) (hn : n ≤ R) (e : fs' = fs ∨ fs' = fs ++ [s]) (hi : fs'[i]? = some s) (key : ∀ j, fs'[j]? = some s → Rk fs' n j) : Rk fs' n i ∧ AllR R fs' :=
  put_all hall hn e hi (fun _ => True) (fun _ _ _ => trivial) trivial fun j h _ => key j h
theorem or_gs {fs fs' : List Stp} {s : Stp} (e : fs' = fs ∨ fs' = fs ++ [s]) : ∃ gs : List Stp, fs' = fs ++ gs ∧ gs.length ≤ 1 := by
  rcases e with e | e
  · exact ⟨[], by rw [e, List.append_nil], by decide⟩
  · exact ⟨[s], e, Nat.le_refl _⟩
theorem szN_pos : ∀ n, 1 ≤ szN n
  | 0 => Nat.le_refl _
  | n + 1 => by show 1 ≤ 1 + 4 * szN n; omega
theorem Fk.lst {H : Hp} {F M d : Addr} {fs : List Stp} {l l' : List V} (k : Fk H F M fs) (hd : H d = some (.lst l)) (n1 : d ≠ F) (n2 : d ≠ M) : Fk (upd H d (.lst l')) F M fs := by
  obtain ⟨us', kvs', h1, h2, h3, h4⟩ := k.ex
  exact ⟨us', kvs', by rw [upd_ne n1.symm]; exact h1, pair_tst (fun p xs h => tp_lst hd h) h2, by rw [upd_ne n2.symm]; exact h3, h4⟩
theorem b_steps_into (n R k : Nat) (T : Txt K w mg D) (F : DefAt K mg "steps_into" s_steps_into [] []) (G_parts_of : Has P w K mg base 1 "parts_of" (spParts K w D) []) (G_put : Has P w K mg base 1 "put" spPut []) {spF : Sp} (hs : ∀ m, n = m + 1 → ∀ vs H Q E, spInto m R vs H Q E → spF vs H Q E)
    (G_steps_into : Has P w K mg base (k + 1) "steps_into" spF []) : Has P w K mg base (k + 2) "steps_into" (spInto n R) [] := by
  refine has_of F sc_steps_into (fun _ _ _ _ _ _ us hl => match us, hl with | [_, _, _, _, _], _ => rfl) ?_ ?_
  · rintro _ _ _ _ ⟨_, _, _, _, _, _, _, _, rfl, _⟩; rfl
  · rintro f cdv A outer s0 H vs Q E hr ⟨F, M, q, v, y, fs, dx, dz, rfl, hk, hv, hq, hn, hn5, hl, hall, hb, kk⟩
    refine ⟨_, pss_cons (ps_set (i := 5) sc_steps_into.nd rfl (Or.inl rfl) (pe_ix ix_tup (pv 2) (pe_int) (fun _ _ => rfl)))
      (pss_cons (ps_asg (pv 3) (pg_tup rfl (pgs_cons (pg_name (i := 6) sc_steps_into.nd rfl (Or.inl rfl)) (pgs_cons (pg_name (i := 7) sc_steps_into.nd rfl (Or.inl rfl)) (pgs_nil)))))
      (pss_cons (ps_if (pt_cmpR op_eq (pv 5) (pe_str) (nomark _)) (pss_never) (pss_nil))
      (pss_cons (ps_if (pt_cmpR op_eq (pv 5) (pe_str) (nomark _)) (pss_never) (pss_nil))
      (pss_cons (ps_if (pt_cmpR op_eq (pv 5) (pe_str) (nomark _)) (pss_one (ps_ret (pe_c G_steps_into (hr.mono (by omega)) (by rfl) (pa_cons (pv 0) (pa_cons (pv 1) (pa_cons (pe_ix ix_tup (pv 2) (pe_int) (fun _ _ => rfl)) (pa_cons (pe_tup (pa_cons (pe_op op_add (pv 6) (pe_ix ix_tup (pv 2) (pe_int) (fun _ _ => rfl))) (pa_cons (pe_op op_add (pv 7) (pe_ix ix_tup (pv 2) (pe_int) (fun _ _ => rfl))) (pa_nil)))) (pa_cons (pv 4) (pa_nil))))))))) (pss_nil))
      (pss_cons (ps_if (pt_cmpR op_eq (pv 5) (pe_str) (nomark _)) (pss_one (ps_ret (pe_c G_put (hr.mono (by omega)) (by rfl) (pa_cons (pv 0) (pa_cons (pv 1) (pa_cons (pv 2) (pa_nil))))))) (pss_nil))
      (pss_cons (ps_if (pt_cmpR op_eq (pv 5) (pe_str) (nomark _)) (pss_one (ps_ret (pe_c G_put (hr.mono (by omega)) (by rfl) (pa_cons (pv 0) (pa_cons (pv 1) (pa_cons (pe_tup (pa_cons (pe_str) (pa_cons (pv 6) (pa_nil)))) (pa_nil))))))) (pss_nil))
      (pss_cons (ps_if (pt_cmpR op_eq (pv 5) (pe_str) (nomark _)) (pss_one (ps_ret (pe_c G_put (hr.mono (by omega)) (by rfl) (pa_cons (pv 0) (pa_cons (pv 1) (pa_cons (pe_tup (pa_cons (pe_str) (pa_cons (pv 7) (pa_nil)))) (pa_nil))))))) (pss_nil))
      (pss_cons (ps_if (pt_cmpR op_eq (pv 5) (pe_str) (nomark _)) (pss_one (ps_ret (pe_c G_put (hr.mono (by omega)) (by rfl) (pa_cons (pv 0) (pa_cons (pv 1) (pa_cons (pe_op op_catA (pv 2) (pv 3)) (pa_nil))))))) (pss_nil))
      (pss_cons (ps_setLc (i := 10) (own := [("part", 11)]) (g := (gName 11)) rfl sc_steps_into.nd rfl rfl (sw_true rfl rfl rfl (by decide +kernel)) (pi_list (pe_c G_parts_of (hr.mono (by omega)) (by rfl) (pa_cons (pv 2) (pa_nil)))) (blkOk_by (own := [("part", 11)]) (N := nm_steps_into) (sc := defScope s_steps_into) (by decide +kernel)) (fun _ _ _ _ _ => pg_name (i := 11) sc_steps_into.nd rfl (Or.inl rfl)) (fun _ _ _ _ _ => pts_nil) (fun _ _ _ _ _ => pe_c G_steps_into (hr.mono (by omega)) (by rfl) (pa_cons (pv 0) (pa_cons (pv 1) (pa_cons (pv 11) (pa_cons (pv 3) (pa_cons (pv 4) (pa_nil))))))))
      (pss_cons (ps_if (pt_cmpR op_eq (pv 5) (pe_str) (nomark _)) (pss_one (ps_expr (pe_bm PySem.F.plainAttrs_list PySem.F.slot_list_append PySem.F.type_list_append mt_append (pv 10) (pa_cons (pe_ix ix_tup (pv 2) (pe_int) (fun _ _ => rfl)) (pa_nil))))) (pss_nil))
      (pss_one (ps_ret (pe_c G_put (hr.mono (by omega)) (by rfl) (pa_cons (pv 0) (pa_cons (pv 1) (pa_cons (pe_op op_catA (pe_tup (pa_cons (pv 5) (pa_nil))) (pe_callTy call_tuple_of (by rfl) T.f_tuple bt_tuple (pa_cons (pv 10) (pa_nil)))) (pa_nil))))))))))))))))), ?_⟩
    rcases hv.node T with ⟨m, p, u, a, b, rfl, rfl, htp, hu, a0, a1, b0, b1⟩ | ⟨p, k, rfl, htp, k0, k1⟩ | ⟨p, rfl, htp⟩ | ⟨p, rfl, htp⟩ | ⟨p, a, b, rfl, htp, a0, a1, b0, b1⟩ | ⟨p, x, form, args, tl, rfl, vw, nd⟩
    · walk_at "rd"
      rename_i t ht
      have et : Ex H (upd H t (.tup [.int (dx + a), .int (dz + b)])) := Ex.nw (Ex.rfl' H) ht
      refine hs m rfl _ _ _ _ ⟨F, M, t, u, y, fs, dx + a, dz + b, rfl, hk.mono et, hu.mono (.ex et), tp_up, by omega, by omega, ?_, hall, by omega, fun i gs H' hk' hg hrk hall' e2 => ?_⟩
      · have : szN (m + 1) = 1 + 4 * szN m := rfl
        omega
      · refine kk i gs H' hk' ?_ (hrk.up (Nat.le_succ _)) hall' ((Ex2.ex et).tr e2)
        have : szN (m + 1) = 1 + 4 * szN m := rfl
        omega
    · walk_at "rd"
      refine ⟨F, M, p, ⟨"whole", [k]⟩, fs, rfl, hk, htp, by have := szN_pos n; omega, fun i fs' H' hk' e hi e2 => ?_⟩
      obtain ⟨gs, rfl, hg⟩ := or_gs e
      have hh := leaf_all (n := n) hall hn e hi fun j hj => .whole hj k0 k1
      exact kk i gs H' hk' (by have := szN_pos n; omega) hh.1 hh.2 e2
    · walk_at "rd"
      rename_i t ht
      have et : Ex H (upd H t (.tup [.str "x", .int dx])) := Ex.nw (Ex.rfl' H) ht
      refine ⟨F, M, t, ⟨"x", [dx]⟩, fs, rfl, hk.mono et, tp_up, by have := szN_pos n; omega, fun i fs' H' hk' e hi e2 => ?_⟩
      obtain ⟨gs, rfl, hg⟩ := or_gs e
      have hh := leaf_all (n := n) hall hn e hi fun j hj => .x hj (by omega) (by omega)
      exact kk i gs H' hk' (by have := szN_pos n; omega) hh.1 hh.2 ((Ex2.ex et).tr e2)
    · walk_at "rd"
      rename_i t ht
      have et : Ex H (upd H t (.tup [.str "z", .int dz])) := Ex.nw (Ex.rfl' H) ht
      refine ⟨F, M, t, ⟨"z", [dz]⟩, fs, rfl, hk.mono et, tp_up, by have := szN_pos n; omega, fun i fs' H' hk' e hi e2 => ?_⟩
      obtain ⟨gs, rfl, hg⟩ := or_gs e
      have hh := leaf_all (n := n) hall hn e hi fun j hj => .z hj (by omega) (by omega)
      exact kk i gs H' hk' (by have := szN_pos n; omega) hh.1 hh.2 ((Ex2.ex et).tr e2)
    · walk_at "rd"
      refine ⟨p, q, _, _, rfl, rfl, tp_sq htp, tp_sq hq, Evl.sz_of (Nat.le_of_ble_eq_true rfl), (by intro z; cases z), (by intro _ z; cases z), fun _ _ t ht => ?_⟩
      have et : Ex H (upd H t (.tup ([.str "noise", .int a, .int b] ++ [.int dx, .int dz]))) := Ex.nw (Ex.rfl' H) ht
      walk_at "rd"
      refine ⟨F, M, t, ⟨"noise", [a, b, dx, dz]⟩, fs, rfl, hk.mono et, tp_up, by have := szN_pos n; omega, fun i fs' H' hk' e hi e2 => ?_⟩
      obtain ⟨gs, rfl, hg⟩ := or_gs e
      have hh := leaf_all (n := n) hall hn e hi fun j hj => .noise hj a0 a1 b0 b1 (by omega) (by omega) (by omega) (by omega)
      exact kk i gs H' hk' (by have := szN_pos n; omega) hh.1 hh.2 ((Ex2.ex et).tr e2)
    · have htp := vw.h
      obtain ⟨n1, n2, n3, n4, n5, n6, n7⟩ := (⟨nd.n1, nd.n2, nd.n3, nd.n4, nd.n5, nd.n6, nd.n7⟩ : _ ∧ _ ∧ _ ∧ _ ∧ _ ∧ _ ∧ _)
      obtain ⟨m, rfl, hus, hul, htl, hrk⟩ := nd.ex
      walk_at "rd"
      refine ⟨p, _, x, form, args, rfl, vw, fun l H1 e1 hl0 hl1 => ?_⟩
      generalize pickF form.cps.toList args = us at hus hul hrk hl1
      walk_at "rd"
      refine ⟨⟨us, Evl.sq_of hl1⟩, ?_⟩
      intro d hd
      have hk1 := hk.mono e1
      have nl := hk1.fne hd
      have nlF : l ≠ F ∧ l ≠ M := by
        obtain ⟨us', kvs', h1, _, h3, _⟩ := hk.ex
        exact ⟨(ne_of_none h1 hl0).symm, (ne_of_none h3 hl0).symm⟩
      have e0 : Ex2 F M H H1 := Ex2.ex e1
      have hnd : H d = none := e1.fr hd
      refine lc_list (K := K) (a := l) (xs := us) (fun i H' => Here (∃ (gs : List Stp) (ix : List Nat), Fk H' F M (fs ++ gs) ∧ gs.length ≤ i * szN m ∧ H' d = some (.lst ((ix.map Int.ofNat).map V.int)) ∧ ix.length = i ∧ (∀ j ∈ ix, Rk (fs ++ gs) m j) ∧ AllR R (fs ++ gs) ∧ Ex2 F M H1 H')) ?_ ?_ ?_ ?_
      · exact .it ⟨[], [], by rw [List.append_nil]; exact hk1.mono (Evl.Ex.new hd), by simp, upd_same, rfl, (fun _ z => nomatch z), by rw [List.append_nil]; exact hall, Ex2.ex (Evl.Ex.new hd)⟩
      · intro i H' _ hh
        obtain ⟨_, _, _, _, _, _, _, _, h7⟩ := hh.get
        exact Evl.sq_of (h7 _ _ hl1 nlF.1 nlF.2)
      · intro i u H' hu hh
        obtain ⟨gs, ix, hk2, hgl, hd2, hix, hixr, hall', h7⟩ := hh.get
        have hi : i < us.length := (List.getElem?_eq_some_iff.mp hu).1
        have eA : Ex2 F M H H' := e0.tr h7
        have h8 : i * szN m ≤ 3 * szN m := Nat.mul_le_mul_right _ (by omega)
        have h9 : szN (m + 1) = 1 + 4 * szN m := rfl
        walk_at "rd"
        refine hs m rfl _ _ _ _ ⟨F, M, q, u, y, fs ++ gs, dx, dz, rfl, hk2, (hus u (List.mem_of_getElem? hu)).mono (hk.tst eA), hk.tst eA _ _ hq, by omega, by omega, by simp; omega, hall', by omega, fun j gs2 H2 hk3 hg2 hrk2 hall2 e3 => ?_⟩
        rw [List.append_assoc] at hk3 hrk2 hall2
        have hk3' : H2 d = some (.lst ((ix.map Int.ofNat).map V.int)) := e3 _ _ hd2 nl.1 nl.2
        refine ⟨_, hk3', Evl.sz_lt (by simp; omega), .it ⟨gs ++ gs2, ix ++ [j], ?_, ?_, ?_, by simp; omega, ?_, hall2, ?_⟩⟩
        · obtain ⟨us', kvs', h1, h2, h3, h4⟩ := hk3.ex
          have hT : ∀ p xs, Tp H2 p xs → Tp (upd H2 d (.lst ((ix.map Int.ofNat).map V.int ++ [.int j]))) p xs := fun p xs h => tp_lst hk3' h
          exact ⟨us', kvs', by rw [upd_ne nl.1.symm]; exact h1, pair_tst hT h2, by rw [upd_ne nl.2.symm]; exact h3, h4⟩
        · rw [List.length_append, Nat.add_mul, Nat.one_mul]; omega
        · rw [List.map_append, List.map_append]; exact upd_same
        · intro j' hj'
          rcases List.mem_append.mp hj' with h | h
          · rw [← List.append_assoc]; exact (hixr j' h).app
          · rw [List.mem_singleton.mp h]; exact hrk2
        · intro b o hb n1 n2
          have hbd : b ≠ d := ne_of_none hb hd
          rw [upd_ne hbd]
          exact e3 b o (h7 b o hb n1 n2) n1 n2
      · intro H' hh
        obtain ⟨gs, ix, hk2, hgl, hd2, hix, hixr, hall', h7⟩ := hh.get
        have eA : Ex2 F M H H' := e0.tr h7
        have htp2 := hk.tst eA _ _ htp
        have h9 : szN (m + 1) = 1 + 4 * szN m := rfl
        have h8 : us.length * szN m ≤ 4 * szN m := Nat.mul_le_mul_right _ hul
        walk_at "rd"
        rcases htl with ⟨rfl, dd, u0, rfl, rfl⟩ | ⟨nx, rfl⟩
        · walk_at "rd"
          refine ⟨d, _, _, rfl, rfl, hd2, Evl.sz_lt (by simp; omega), ?_⟩
          have hk3 := hk2.lst (l' := (ix.map Int.ofNat).map V.int ++ [.int dd]) hd2 nl.1 nl.2
          have eB : Ex2 F M H (upd H' d (.lst ((ix.map Int.ofNat).map V.int ++ [.int dd]))) := fun b o hb n1 n2 => by rw [upd_ne (ne_of_none hb hnd)]; exact eA b o hb n1 n2
          walk_at "rd"
          rename_i t ht
          refine ⟨d, _, rfl, .inl ⟨sl_new ht (sl_up), fun t2 ht2 => ?_⟩⟩
          walk_at "rd"
          refine ⟨t, t2, [.str "over"], _, rfl, rfl, sq_new ht2 sq_up, sq_up, Evl.sz_of (by simp; omega), (by intro z; cases z), ?_, ?_⟩
          · intro _ hz
            simp at hz
          · intro _ _ t3 ht3
            walk_at "rd"
            refine ⟨F, M, t3, ⟨"over", ix.map Int.ofNat ++ [dd]⟩, fs ++ gs, rfl, hk3.mono (Ex.nw (Ex.nw (Ex.nw (Ex.rfl' _) ht) ht2) ht3), show _ = _ by rw [upd_same]; simp [Stp.its], by simp; omega, fun i fs' H5 hk' e hi e3 => ?_⟩
            obtain ⟨gs', rfl, hg'⟩ := or_gs e
            have hh := hrk (fs ++ gs) R ix hall' hn hix hixr _ i e hi
            rw [List.append_assoc] at hk' hh
            refine kk i (gs ++ gs') H5 hk' ?_ hh.1 hh.2 ((eB.tr (Ex2.ex (Ex.nw (Ex.nw (Ex.nw (Ex.rfl' _) ht) ht2) ht3))).tr e3)
            rw [List.length_append]; omega
        · have eB := eA
          walk_at "rd"
          rename_i t ht
          refine ⟨d, _, rfl, .inl ⟨sl_new ht (Evl.sq_of hd2), fun t2 ht2 => ?_⟩⟩
          walk_at "rd"
          refine ⟨t, t2, [.str x], _, rfl, rfl, sq_new ht2 sq_up, sq_up, Evl.sz_of (by simp; omega), (by intro z; cases z), ?_, ?_⟩
          · intro _ hz
            have hz' : ix = [] := by
              cases ix with
              | nil => rfl
              | cons a l => simp at hz
            walk_at "rd"
            refine ⟨F, M, t, ⟨x, ix.map Int.ofNat ++ []⟩, fs ++ gs, rfl, hk2.mono (Ex.nw (Ex.nw (Ex.rfl' _) ht) ht2), by rw [hz']; exact tp_new ht2 tp_up, by simp; omega, fun i fs' H5 hk' e hi e3 => ?_⟩
            obtain ⟨gs', rfl, hg'⟩ := or_gs e
            have hh := hrk (fs ++ gs) R ix hall' hn hix hixr _ i e hi
            rw [List.append_assoc] at hk' hh
            refine kk i (gs ++ gs') H5 hk' ?_ hh.1 hh.2 ((eB.tr (Ex2.ex (Ex.nw (Ex.nw (Ex.rfl' _) ht) ht2))).tr e3)
            rw [List.length_append]; omega
          · intro _ _ t3 ht3
            walk_at "rd"
            refine ⟨F, M, t3, ⟨x, ix.map Int.ofNat ++ []⟩, fs ++ gs, rfl, hk2.mono (Ex.nw (Ex.nw (Ex.nw (Ex.rfl' _) ht) ht2) ht3), show _ = _ by rw [upd_same]; simp [Stp.its], by simp; omega, fun i fs' H5 hk' e hi e3 => ?_⟩
            obtain ⟨gs', rfl, hg'⟩ := or_gs e
            have hh := hrk (fs ++ gs) R ix hall' hn hix hixr _ i e hi
            rw [List.append_assoc] at hk' hh
            refine kk i (gs ++ gs') H5 hk' ?_ hh.1 hh.2 ((eB.tr (Ex2.ex (Ex.nw (Ex.nw (Ex.nw (Ex.rfl' _) ht) ht2) ht3))).tr e3)
            rw [List.length_append]; omega
theorem h_steps_into (R : Nat) (T : Txt K w mg D) (F : DefAt K mg "steps_into" s_steps_into [] []) (G_parts_of : Has P w K mg base 1 "parts_of" (spParts K w D) []) (G_put : Has P w K mg base 1 "put" spPut []) : ∀ n, Has P w K mg base (n + 2) "steps_into" (spInto n R) []
  | 0 => b_steps_into 0 R 0 T F G_parts_of G_put (fun m h => nomatch h) (has_no F sc_steps_into (fun _ _ _ _ _ _ us hl => match us, hl with | [_, _, _, _, _], _ => rfl))
  | n + 1 => b_steps_into (n + 1) R (n + 1) T F G_parts_of G_put (fun m h vs H Q E q => by cases h; exact q) (h_steps_into R T F G_parts_of G_put n)

end Kw
set_option Elab.async false
set_option linter.all false
set_option maxRecDepth 100000
set_option maxHeartbeats 2000000
namespace Kw
open PySem PySem.Spec PyProof.Rows L2
local macro_rules | `(tactic| walk_at "tp") => `(tactic| repeat (first | assumption | exact tp_up | refine tp_new (by assumption) ?_ | refine tp_lst (by assumption) ?_ | refine tp_ex (by assumption) ?_ | refine tp_mv (by assumption) ?_))
local macro_rules | `(tactic| walk_at "sq") => `(tactic| repeat (first | assumption | exact sq_up | exact sl_up | exact tp_sq (by assumption) | exact Evl.sq_of (by assumption) | refine sq_new (by assumption) ?_ | refine sl_new (by assumption) ?_ | refine sq_lst (by assumption) ?_ | refine sq_ex (by assumption) ?_ | refine sl_ex (by assumption) ?_ | refine sq_mv (by assumption) ?_))
local macro_rules | `(tactic| walk_at "ex") => `(tactic| repeat (first | assumption | exact Ex.rfl' _ | refine Ex.nw ?_ (by assumption) | refine Ex.tr ?_ (by assumption)))
local macro_rules | `(tactic| walk_at "cond") => `(tactic| first | decide | exact Or.inl ⟨by omega, by omega⟩ | exact Or.inr ⟨by omega, by omega⟩ | exact ⟨by omega, by omega⟩ | omega)
local macro_rules | `(tactic| walk_at "rd1") => `(tactic| first
  | refine ⟨_, rfl, ?_⟩
  | refine ⟨_, _, rfl, rfl, ?_⟩
  | refine ⟨_, _, rfl, ?_⟩
  | refine ⟨rfl, ?_⟩
  | refine ⟨_, _, _, rfl, ?_⟩
  | (refine' ⟨_, _, _, _, rfl, rfl, ?h, ?ha, ?q⟩; (case h => walk_at "sq"); (case ha => first | rfl | exact at_c0 _ _ | exact at_vals (by omega)))
  | refine ⟨_, _, _, _, rfl, ?_⟩
  | refine ⟨_, _, _, _, _, rfl, ?_⟩
  | (refine' ⟨_, _, rfl, ?h, ?ha, ?q⟩; (case h => walk_at "sq"); (case ha => first | rfl | exact Nat.le_of_ble_eq_true rfl))
  | refine Or.inr ⟨_, rfl, ?_⟩
  | (refine' ⟨_, _, rfl, Or.inr ?h, ?q⟩; (case h => walk_at "sq"))
  | (refine' ⟨_, _, rfl, Or.inl ?h, ?q⟩; (case h => walk_at "sq"))
  | refine ⟨_, _, _, _, _, rfl, .ty _, .base (.int _), kit_ty kit_ii, ?_⟩
  | refine ⟨_, _, _, _, _, rfl, .ty _, .base (.int _), kit_ty kit_ib, ?_⟩
  | refine ⟨_, _, _, _, _, rfl, .ty _, .base (.str _), kit_ty kit_ss, ?_⟩
  | refine ⟨_, _, _, _, _, rfl, .ty _, .base (.tup (by assumption)), kit_ty kit_tt, ?_⟩
  | with_reducible refine iteT ?_
  | with_reducible refine iteF ?_
  | refine ite_yes (by first | decide | omega) ?_
  | refine ite_no (by first | decide | omega) ?_
  | refine ite_no (fun z => absurd (V.str.inj z) (by assumption)) ?_
  | refine ite_nyes (by first | decide | omega) ?_
  | refine ite_nno (by first | decide | omega) ?_
  | (refine' And.intro (Or.inl ⟨rfl, _, ?h⟩) ?q; (case h => first | exact SqL.of (by first | assumption | exact upd_same) | walk_at "sq"))
  | (refine' And.intro ?h ?q; (case h => exact Evl.sz_of (Nat.le_of_ble_eq_true rfl)))
  | refine fun p (hp : (_ : Hp) p = none) => ?_
  | (refine' ⟨_, _, rfl, Or.inr ?h, rfl, rfl, ?q⟩; (case h => walk_at "sq"))
  | (refine' ⟨_, _, rfl, Or.inl ?h, rfl, rfl, ?q⟩; (case h => walk_at "sq"))
  | (refine' And.intro ?h ?q; (case h => walk_at "cond")))
local macro_rules | `(tactic| walk_at "rd") => `(tactic| repeat walk_at "rd1")
local macro_rules | `(tactic| walk_at "rs") => `(tactic| repeat' (first | walk_at "rd1" | refine ite2d (fun h => ?_) (fun h => ?_) | refine ite2n (fun h => ?_) (fun h => ?_) | refine ite2 (fun h => ?_) (fun h => ?_)))

variable {P : Program} {w : World} {K : PySem.W.Frag} {mg : Str → Option Value} {base : Heap} {D : Ad}
/-! ### steps_in -/
def StL (H : Hp) (l : Addr) (fs : List Stp) : Prop := ∃ us, H l = some (.lst us) ∧ Paired (fun u (s : Stp) => ∃ p, u = V.ref p ∧ Tp H p s.its) us fs
theorem StL.ex {H H' : Hp} {l : Addr} {fs : List Stp} (h : StL H l fs) (e : Ex H H') : StL H' l fs := by
  obtain ⟨us, h1, h2⟩ := h
  exact ⟨us, e _ _ h1, pair_tst (.ex e) h2⟩
def spStepsIn : Sp := fun vs H Q _ => ∃ v, vs = [v] ∧ FdP H 2 v ∧ ∀ (l : Addr) (fs : List Stp) (H' : Hp), Ex H H' → H l = none → StL H' l fs → AllR 2 fs → 0 < fs.length → fs.length ≤ 1000 → Q (.ref l) H'
theorem h_steps_in (F : DefAt K mg "steps_in" s_steps_in [] []) (T : Txt K w mg D) (G_steps_into : Has P w K mg base 4 "steps_into" (spInto 2 2) []) : Has P w K mg base 5 "steps_in" spStepsIn [] := by
  refine has_of F sc_steps_in (fun _ _ _ _ _ _ us hl => match us, hl with | [_], _ => rfl) ?_ ?_
  · rintro _ _ _ _ ⟨v, rfl, _⟩; rfl
  · rintro f cdv A outer s0 H vs Q E hr ⟨v, rfl, hv, kk⟩
    refine ⟨_, pss_cons (ps_set (i := 1) sc_steps_in.nd rfl (Or.inl rfl) (pe_lst (pa_nil)))
      (pss_cons (ps_expr (pe_c G_steps_into (hr.mono (by decide)) (by rfl) (pa_cons (pv 1) (pa_cons (pe_dnewT) (pa_cons (pv 0) (pa_cons (pe_tup (pa_cons (pe_int) (pa_cons (pe_int) (pa_nil)))) (pa_cons (pe_dnewT) (pa_nil))))))))
      (pss_one (ps_ret (pv 1)))), ?_⟩
    walk_at "rd"
    rename_i l hl M hM t ht N hN
    have nlM : l ≠ M := ne_of_none upd_same hM
    have e1 : Ex H (upd (upd (upd (upd H l (.lst [])) M (.dT [])) t (.tup [.int 0, .int 0])) N (.dT [])) := by walk_at "ex"
    have k1 : Fk (upd (upd (upd (upd H l (.lst [])) M (.dT [])) t (.tup [.int 0, .int 0])) N (.dT [])) l M [] := by
      have k0 : Fk (upd (upd H l (.lst [])) M (.dT [])) l M [] := ⟨[], [], by rw [upd_ne nlM, upd_same], .nil, upd_same, rfl, fun s v h => by cases h⟩
      exact k0.mono (Ex.nw (Ex.nw (Ex.rfl' _) ht) hN)
    refine ⟨l, M, t, v, .ref N, [], 0, 0, rfl, k1, hv.mono (.ex e1), tp_new hN tp_up, by decide, by decide, by decide, fun i h => absurd h (Nat.not_lt_zero i), by decide, fun i gs H' hk hg hrk hall e2 => ?_⟩
    walk_at "rd"
    have hMn : H M = none := Ex.fr (Ex.nw (Ex.rfl' H) hl) hM
    obtain ⟨us, kvs, h1, h2, _⟩ := hk.ex
    exact kk l gs H' (fun b o hb => e2 b o (e1 b o hb) (ne_of_none hb hl) (ne_of_none hb hMn)) hl ⟨us, h1, h2⟩ hall (Nat.lt_of_le_of_lt (Nat.zero_le _) hrk.lt) (Nat.le_trans hg (by decide))
/-! ### noise_at -/
def noiseV (seed salt log x z : Int) : Int :=
  let s : Int := 1 * 2 ^ log.toNat
  let near := (s - x % s) * knotV seed salt (x / s) (z / s) + x % s * knotV seed salt (x / s + 1) (z / s)
  let far := (s - x % s) * knotV seed salt (x / s) (z / s + 1) + x % s * knotV seed salt (x / s + 1) (z / s + 1)
  ((s - z % s) * near + z % s * far) / (s * s)
theorem side_le {log : Int} (h0 : 0 ≤ log) (h1 : log ≤ 3) : (1 : Int) * 2 ^ log.toNat = 1 ∨ (1 : Int) * 2 ^ log.toNat = 2 ∨ (1 : Int) * 2 ^ log.toNat = 4 ∨ (1 : Int) * 2 ^ log.toNat = 8 := by
  have : log = 0 ∨ log = 1 ∨ log = 2 ∨ log = 3 := by omega
  rcases this with rfl | rfl | rfl | rfl <;> simp
def spNoise : Sp := fun vs H Q _ => ∃ a b c x z : Int, vs = [.int a, .int b, .int c, .int x, .int z] ∧ 0 ≤ c ∧ c ≤ 3 ∧ ∀ H', Ex H H' → Q (.int (noiseV a b c x z)) H'
theorem h_noise_at (F : DefAt K mg "noise_at" s_noise_at [] []) (T : Txt K w mg D) (G_knot : Has P w K mg base 1 "knot" spKnot []) : Has P w K mg base 2 "noise_at" spNoise [] := by
  refine has_of F sc_noise_at (fun _ _ _ _ _ _ us hl => match us, hl with | [_, _, _, _, _], _ => rfl) ?_ ?_
  · rintro _ _ _ _ ⟨_, _, _, _, _, rfl, _⟩; rfl
  · rintro f cdv A outer s0 H vs Q E hr ⟨a, b, c, x, z, rfl, c0, c1, kk⟩
    have hs := side_le c0 c1
    refine ⟨_, pss_cons (ps_set (i := 5) sc_noise_at.nd rfl (Or.inl rfl) (pe_op op_shl (pe_int) (pv 2)))
      (pss_cons (ps_asg (pe_callB call_divmod (by rfl) T.f_divmod bt_divmod (pa_cons (pv 3) (pa_cons (pv 5) (pa_nil)))) (pg_tup rfl (pgs_cons (pg_name (i := 6) sc_noise_at.nd rfl (Or.inl rfl)) (pgs_cons (pg_name (i := 7) sc_noise_at.nd rfl (Or.inl rfl)) (pgs_nil)))))
      (pss_cons (ps_asg (pe_callB call_divmod (by rfl) T.f_divmod bt_divmod (pa_cons (pv 4) (pa_cons (pv 5) (pa_nil)))) (pg_tup rfl (pgs_cons (pg_name (i := 8) sc_noise_at.nd rfl (Or.inl rfl)) (pgs_cons (pg_name (i := 9) sc_noise_at.nd rfl (Or.inl rfl)) (pgs_nil)))))
      (pss_cons (ps_set (i := 10) sc_noise_at.nd rfl (Or.inl rfl) (pe_op op_add (pe_op op_mul (pe_op op_sub (pv 5) (pv 7)) (pe_c G_knot (hr.mono (by decide)) (by rfl) (pa_cons (pv 0) (pa_cons (pv 1) (pa_cons (pv 6) (pa_cons (pv 8) (pa_nil))))))) (pe_op op_mul (pv 7) (pe_c G_knot (hr.mono (by decide)) (by rfl) (pa_cons (pv 0) (pa_cons (pv 1) (pa_cons (pe_op op_add (pv 6) (pe_int)) (pa_cons (pv 8) (pa_nil)))))))))
      (pss_cons (ps_set (i := 11) sc_noise_at.nd rfl (Or.inl rfl) (pe_op op_add (pe_op op_mul (pe_op op_sub (pv 5) (pv 7)) (pe_c G_knot (hr.mono (by decide)) (by rfl) (pa_cons (pv 0) (pa_cons (pv 1) (pa_cons (pv 6) (pa_cons (pe_op op_add (pv 8) (pe_int)) (pa_nil))))))) (pe_op op_mul (pv 7) (pe_c G_knot (hr.mono (by decide)) (by rfl) (pa_cons (pv 0) (pa_cons (pv 1) (pa_cons (pe_op op_add (pv 6) (pe_int)) (pa_cons (pe_op op_add (pv 8) (pe_int)) (pa_nil)))))))))
      (pss_one (ps_ret (pe_op op_fdiv (pe_op op_add (pe_op op_mul (pe_op op_sub (pv 5) (pv 9)) (pv 10)) (pe_op op_mul (pv 9) (pv 11))) (pe_op op_mul (pv 5) (pv 5))))))))), ?_⟩
    have p0 : 0 < (1 : Int) * 2 ^ c.toNat := by omega
    have x0 := Int.emod_nonneg x (Int.ne_of_gt p0)
    have x1 := Int.emod_lt_of_pos x p0
    have z0 := Int.emod_nonneg z (Int.ne_of_gt p0)
    have z1 := Int.emod_lt_of_pos z p0
    have ss : 0 < (1 : Int) * 2 ^ c.toNat * (1 * 2 ^ c.toNat) ∧ (1 : Int) * 2 ^ c.toNat * (1 * 2 ^ c.toNat) ≤ 64 := by
      rcases hs with h | h | h | h <;> rw [h] <;> decide
    walk_at "rd"
    exact kk _ (by walk_at "ex")
/-! ### one step's value -/
theorem at_vals {vs : List Int} {j : Nat} (h : j < vs.length) : atI (vs.map V.int) (j : Int) = some (V.int (vs.getD j 0)) := atI_nat (by rw [List.getElem?_map, List.getElem?_eq_getElem h, List.getD_eq_getElem?_getD, List.getElem?_eq_getElem h]; rfl)
def recV (s : Stp) (vals : List Int) : Int :=
  let a := vals.getD (s.ns.getD 0 0).toNat 0
  let b := vals.getD (s.ns.getD 1 0).toNat 0
  if s.w = "over" then a / s.ns.getD 1 0
  else if s.w = "below" then (if a < b then vals.getD (s.ns.getD 2 0).toNat 0 else vals.getD (s.ns.getD 3 0).toNat 0)
  else if s.w = "plus" then a + b
  else if s.w = "less" then a - b
  else if s.w = "times" then a * b
  else if s.w = "least" then (if b < a then b else a)
  else (if b > a then b else a)
def Bnd : Nat → Int
  | 0 => 2 ^ 24
  | 1 => 2 ^ 48
  | _ => 2 ^ 96
/-- values within their ranks' bounds -/
def Bok (fs : List Stp) (vals : List Int) : Prop := ∀ r j, r ≤ 2 → j < vals.length → Rk fs r j → -Bnd r ≤ vals.getD j 0 ∧ vals.getD j 0 ≤ Bnd r
inductive Inner : Str → Prop
  | over : Inner "over"
  | lt4 : Inner "below"
  | bin {x : Str} (h : Bin5 x) : Inner x

end Kw
set_option Elab.async false
set_option linter.all false
set_option maxRecDepth 100000
set_option maxHeartbeats 2000000
namespace Kw
open PySem PySem.Spec PyProof.Rows L2
local macro_rules | `(tactic| walk_at "tp") => `(tactic| repeat (first | assumption | exact tp_up | refine tp_new (by assumption) ?_ | refine tp_lst (by assumption) ?_ | refine tp_ex (by assumption) ?_ | refine tp_mv (by assumption) ?_))
local macro_rules | `(tactic| walk_at "sq") => `(tactic| repeat (first | assumption | exact sq_up | exact sl_up | exact tp_sq (by assumption) | exact Evl.sq_of (by assumption) | refine sq_new (by assumption) ?_ | refine sl_new (by assumption) ?_ | refine sq_lst (by assumption) ?_ | refine sq_ex (by assumption) ?_ | refine sl_ex (by assumption) ?_ | refine sq_mv (by assumption) ?_))
local macro_rules | `(tactic| walk_at "ex") => `(tactic| repeat (first | assumption | exact Ex.rfl' _ | refine Ex.nw ?_ (by assumption) | refine Ex.tr ?_ (by assumption)))
local macro_rules | `(tactic| walk_at "cond") => `(tactic| first | decide | exact Or.inl ⟨by omega, by omega⟩ | exact Or.inr ⟨by omega, by omega⟩ | exact ⟨by omega, by omega⟩ | omega)
local macro_rules | `(tactic| walk_at "rd1") => `(tactic| first
  | refine ⟨_, rfl, ?_⟩
  | refine ⟨_, _, rfl, rfl, ?_⟩
  | refine ⟨_, _, rfl, ?_⟩
  | refine ⟨rfl, ?_⟩
  | refine ⟨_, _, _, rfl, ?_⟩
  | (refine' ⟨_, _, _, _, rfl, rfl, ?h, ?ha, ?q⟩; (case h => walk_at "sq"); (case ha => first | rfl | exact at_c0 _ _ | (refine at_vals ?_; omega)))
  | refine ⟨_, _, _, _, rfl, ?_⟩
  | refine ⟨_, _, _, _, _, rfl, ?_⟩
  | (refine' ⟨_, _, rfl, ?h, ?ha, ?q⟩; (case h => walk_at "sq"); (case ha => first | rfl | exact Nat.le_of_ble_eq_true rfl))
  | refine Or.inr ⟨_, rfl, ?_⟩
  | (refine' ⟨_, _, rfl, Or.inr ?h, ?q⟩; (case h => walk_at "sq"))
  | (refine' ⟨_, _, rfl, Or.inl ?h, ?q⟩; (case h => walk_at "sq"))
  | refine ⟨_, _, _, _, _, rfl, .ty _, .base (.int _), kit_ty kit_ii, ?_⟩
  | refine ⟨_, _, _, _, _, rfl, .ty _, .base (.int _), kit_ty kit_ib, ?_⟩
  | refine ⟨_, _, _, _, _, rfl, .ty _, .base (.str _), kit_ty kit_ss, ?_⟩
  | refine ⟨_, _, _, _, _, rfl, .ty _, .base (.tup (by assumption)), kit_ty kit_tt, ?_⟩
  | with_reducible refine iteT ?_
  | with_reducible refine iteF ?_
  | refine ite_yes (by first | decide | omega) ?_
  | refine ite_no (by first | decide | omega) ?_
  | refine ite_no (fun z => absurd (V.str.inj z) (by assumption)) ?_
  | refine ite_nyes (by first | decide | omega) ?_
  | refine ite_nno (by first | decide | omega) ?_
  | (refine' And.intro (Or.inl ⟨rfl, _, ?h⟩) ?q; (case h => first | exact SqL.of (by first | assumption | exact upd_same) | walk_at "sq"))
  | (refine' And.intro ?h ?q; (case h => exact Evl.sz_of (Nat.le_of_ble_eq_true rfl)))
  | refine fun p (hp : (_ : Hp) p = none) => ?_
  | (refine' ⟨_, _, rfl, Or.inr ?h, rfl, rfl, ?q⟩; (case h => walk_at "sq"))
  | (refine' ⟨_, _, rfl, Or.inl ?h, rfl, rfl, ?q⟩; (case h => walk_at "sq"))
  | (refine' And.intro ?h ?q; (case h => walk_at "cond")))
local macro_rules | `(tactic| walk_at "rd") => `(tactic| repeat walk_at "rd1")
local macro_rules | `(tactic| walk_at "rs") => `(tactic| repeat' (first | walk_at "rd1" | refine ite2d (fun h => ?_) (fun h => ?_) | refine ite2n (fun h => ?_) (fun h => ?_) | refine ite2 (fun h => ?_) (fun h => ?_)))

variable {P : Program} {w : World} {K : PySem.W.Frag} {mg : Str → Option Value} {base : Heap} {D : Ad}
def spReck (K : PySem.W.Frag) : Sp := fun vs H Q _ => ∃ (p l : Addr) (s : Stp) (fs : List Stp) (vals : List Int), vs = [.ref p, .ref l] ∧ Tp H p s.its ∧ SqL K H l (vals.map V.int) ∧ Inner s.w ∧ fs[vals.length]? = some s ∧ Rk fs 2 vals.length ∧ Bok fs vals ∧ ∀ H', Ex H H' → Q (.int (recV s vals)) H'
theorem h_reckoned (F : DefAt K mg "reckoned" s_reckoned [] []) (T : Txt K w mg D) : Has P w K mg base 1 "reckoned" (spReck K) [] := by
  refine has_of F sc_reckoned (fun _ _ _ _ _ _ us hl => match us, hl with | [_, _], _ => rfl) ?_ ?_
  · rintro _ _ _ _ ⟨_, _, _, _, _, rfl, _⟩; rfl
  · rintro f cdv A outer s0 H vs Q E hr ⟨p, l, s, fs, vals, rfl, hp, hl, hin, hs, hrk, hb, kk⟩
    refine ⟨_, pss_cons (ps_asg (pv 0) (pg_star rfl (pgs_cons (pg_name (i := 2) sc_reckoned.nd rfl (Or.inl rfl)) (pgs_cons (pg_name (i := 3) sc_reckoned.nd rfl (Or.inl rfl)) (pgs_star (pg_name (i := 4) sc_reckoned.nd rfl (Or.inl rfl)))))))
      (pss_cons (ps_if (pt_cmpR op_eq (pv 2) (pe_str) (nomark _)) (pss_one (ps_ret (pe_op op_fdiv (pe_ix ix_list (pv 1) (pv 3) (fun _ _ => rfl)) (pe_ix ix_list (pv 4) (pe_int) (fun _ _ => rfl))))) (pss_nil))
      (pss_cons (ps_if (pt_cmpR op_eq (pv 2) (pe_str) (nomark _)) (pss_cons (ps_asg (pv 4) (pg_unl rfl (pgs_cons (pg_name (i := 5) sc_reckoned.nd rfl (Or.inl rfl)) (pgs_cons (pg_name (i := 6) sc_reckoned.nd rfl (Or.inl rfl)) (pgs_cons (pg_name (i := 7) sc_reckoned.nd rfl (Or.inl rfl)) (pgs_nil))))))
      (pss_one (ps_ret (pe_ix ix_list (pv 1) (pe_ix ix_list (pe_lst (pa_cons (pv 7) (pa_cons (pv 6) (pa_nil)))) (pe_callTy call_int1 (by rfl) T.f_int bt_int (pa_cons (pe_cmpR op_lt (pe_ix ix_list (pv 1) (pv 3) (fun _ _ => rfl)) (pe_ix ix_list (pv 1) (pv 5) (fun _ _ => rfl)) (nomark _)) (pa_nil))) (fun _ _ => rfl)) (fun _ _ => rfl))))) (pss_nil))
      (pss_cons (ps_set (i := 5) sc_reckoned.nd rfl (Or.inl rfl) (pe_ix ix_list (pv 1) (pe_ix ix_list (pv 4) (pe_int) (fun _ _ => rfl)) (fun _ _ => rfl)))
      (pss_cons (ps_if (pt_cmpR op_eq (pv 2) (pe_str) (nomark _)) (pss_one (ps_ret (pe_op op_add (pe_ix ix_list (pv 1) (pv 3) (fun _ _ => rfl)) (pv 5)))) (pss_nil))
      (pss_cons (ps_if (pt_cmpR op_eq (pv 2) (pe_str) (nomark _)) (pss_one (ps_ret (pe_op op_sub (pe_ix ix_list (pv 1) (pv 3) (fun _ _ => rfl)) (pv 5)))) (pss_nil))
      (pss_cons (ps_if (pt_cmpR op_eq (pv 2) (pe_str) (nomark _)) (pss_one (ps_ret (pe_op op_mul (pe_ix ix_list (pv 1) (pv 3) (fun _ _ => rfl)) (pv 5)))) (pss_nil))
      (pss_cons (ps_if (pt_cmpR op_eq (pv 2) (pe_str) (nomark _)) (pss_one (ps_ret (pe_callB (call_min2 rfl) (by rfl) T.f_min bt_min (pa_cons (pe_ix ix_list (pv 1) (pv 3) (fun _ _ => rfl)) (pa_cons (pv 5) (pa_nil)))))) (pss_nil))
      (pss_one (ps_ret (pe_callB (call_max2 rfl) (by rfl) T.f_max bt_max (pa_cons (pe_ix ix_list (pv 1) (pv 3) (fun _ _ => rfl)) (pa_cons (pv 5) (pa_nil))))))))))))), ?_⟩
    cases hrk with
    | whole h => rw [hs] at h; cases h; cases hin with | bin h => exact absurd rfl (bin_ne h).2.2.2.1
    | x h => rw [hs] at h; cases h; cases hin with | bin h => exact absurd rfl (bin_ne h).2.2.2.2.1
    | z h => rw [hs] at h; cases h; cases hin with | bin h => exact absurd rfl (bin_ne h).2.2.2.2.2.1
    | noise h => rw [hs] at h; cases h; cases hin with | bin h => exact absurd rfl (bin_ne h).2.2.2.2.2.2.1
    | over h hj lt d0 d1 =>
      rw [hs] at h
      cases h
      have hp' : Tp H p [.str "over", .int _, .int _] := hp
      walk_at "rd"
      exact kk _ (by walk_at "ex")
    | bin hx h hj hk lt m =>
      rw [hs] at h
      cases h
      rename_i j k x
      have hp' : Tp H p [.str x, .int _, .int _] := hp
      have b1 := hb _ _ (by decide) lt hj
      have b2 := hb _ _ (by decide) m hk
      have eB : Bnd 1 = 2 ^ 48 := rfl
      rw [eB] at b1 b2
      cases hx <;> walk_at "rd" <;> exact kk _ (by walk_at "ex")
    | lt4 h hj hk ha hb' lt m n o =>
      rw [hs] at h
      cases h
      have hp' : Tp H p [.str "below", .int _, .int _, .int _, .int _] := hp
      rename_i j k a b
      by_cases hc : vals.getD j 0 < vals.getD k 0
      · have hd : decide (vals.getD j 0 < vals.getD k 0) = true := decide_eq_true hc
        walk_at "rd"
        rw [hd]
        walk_at "rd"
        refine qi (kk _ (by walk_at "ex")) ?_
        show (if vals.getD j 0 < vals.getD k 0 then vals.getD a 0 else vals.getD b 0) = _
        rw [if_pos hc]
      · have hd : decide (vals.getD j 0 < vals.getD k 0) = false := decide_eq_false hc
        walk_at "rd"
        rw [hd]
        walk_at "rd"
        refine qi (kk _ (by walk_at "ex")) ?_
        show (if vals.getD j 0 < vals.getD k 0 then vals.getD a 0 else vals.getD b 0) = _
        rw [if_neg hc]

end Kw
set_option Elab.async false
set_option linter.all false
set_option maxRecDepth 100000
set_option maxHeartbeats 2000000
namespace Kw
open PySem PySem.Spec PyProof.Rows L2
local macro_rules | `(tactic| walk_at "tp") => `(tactic| repeat (first | assumption | exact tp_up | refine tp_new (by assumption) ?_ | refine tp_lst (by assumption) ?_ | refine tp_ex (by assumption) ?_ | refine tp_mv (by assumption) ?_))
local macro_rules | `(tactic| walk_at "sq") => `(tactic| repeat (first | assumption | exact sq_up | exact sl_up | exact tp_sq (by assumption) | exact Evl.sq_of (by assumption) | refine sq_new (by assumption) ?_ | refine sl_new (by assumption) ?_ | refine sq_lst (by assumption) ?_ | refine sq_ex (by assumption) ?_ | refine sl_ex (by assumption) ?_ | refine sq_mv (by assumption) ?_))
local macro_rules | `(tactic| walk_at "ex") => `(tactic| repeat (first | assumption | exact Ex.rfl' _ | refine Ex.nw ?_ (by assumption) | refine Ex.tr ?_ (by assumption)))
local macro_rules | `(tactic| walk_at "cond") => `(tactic| first | decide | exact Or.inl ⟨by omega, by omega⟩ | exact Or.inr ⟨by omega, by omega⟩ | exact ⟨by omega, by omega⟩ | omega)
local macro_rules | `(tactic| walk_at "rd1") => `(tactic| first
  | refine ⟨_, rfl, ?_⟩
  | refine ⟨_, _, rfl, rfl, ?_⟩
  | refine ⟨_, _, rfl, ?_⟩
  | refine ⟨rfl, ?_⟩
  | refine ⟨_, _, _, rfl, ?_⟩
  | (refine' ⟨_, _, _, _, rfl, rfl, ?h, ?ha, ?q⟩; (case h => walk_at "sq"); (case ha => first | rfl | exact at_c0 _ _ | (refine at_vals ?_; omega)))
  | refine ⟨_, _, _, _, rfl, ?_⟩
  | refine ⟨_, _, _, _, _, rfl, ?_⟩
  | (refine' ⟨_, _, rfl, ?h, ?ha, ?q⟩; (case h => walk_at "sq"); (case ha => first | rfl | exact Nat.le_of_ble_eq_true rfl))
  | refine Or.inr ⟨_, rfl, ?_⟩
  | (refine' ⟨_, _, rfl, Or.inr ?h, ?q⟩; (case h => walk_at "sq"))
  | (refine' ⟨_, _, rfl, Or.inl ?h, ?q⟩; (case h => walk_at "sq"))
  | refine ⟨_, _, _, _, _, rfl, .ty _, .base (.int _), kit_ty kit_ii, ?_⟩
  | refine ⟨_, _, _, _, _, rfl, .ty _, .base (.int _), kit_ty kit_ib, ?_⟩
  | refine ⟨_, _, _, _, _, rfl, .ty _, .base (.str _), kit_ty kit_ss, ?_⟩
  | refine ⟨_, _, _, _, _, rfl, .ty _, .base (.tup (by assumption)), kit_ty kit_tt, ?_⟩
  | with_reducible refine iteT ?_
  | with_reducible refine iteF ?_
  | refine ite_yes (by first | decide | omega) ?_
  | refine ite_no (by first | decide | omega) ?_
  | refine ite_no (fun z => absurd (V.str.inj z) (by assumption)) ?_
  | refine ite_nyes (by first | decide | omega) ?_
  | refine ite_nno (by first | decide | omega) ?_
  | (refine' And.intro (Or.inl ⟨rfl, _, ?h⟩) ?q; (case h => first | exact SqL.of (by first | assumption | exact upd_same) | walk_at "sq"))
  | (refine' And.intro ?h ?q; (case h => exact Evl.sz_of (Nat.le_of_ble_eq_true rfl)))
  | refine fun p (hp : (_ : Hp) p = none) => ?_
  | (refine' ⟨_, _, rfl, Or.inr ?h, rfl, rfl, ?q⟩; (case h => walk_at "sq"))
  | (refine' ⟨_, _, rfl, Or.inl ?h, rfl, rfl, ?q⟩; (case h => walk_at "sq"))
  | (refine' And.intro ?h ?q; (case h => walk_at "cond")))
local macro_rules | `(tactic| walk_at "rd") => `(tactic| repeat walk_at "rd1")
local macro_rules | `(tactic| walk_at "rs") => `(tactic| repeat' (first | walk_at "rd1" | refine ite2d (fun h => ?_) (fun h => ?_) | refine ite2n (fun h => ?_) (fun h => ?_) | refine ite2 (fun h => ?_) (fun h => ?_)))

variable {P : Program} {w : World} {K : PySem.W.Frag} {mg : Str → Option Value} {base : Heap} {D : Ad}
/-! ### the values of the steps, within bounds -/
theorem emod_rg (a : Int) {m : Int} (h : 0 < m) : 0 ≤ a % m ∧ a % m < m := ⟨Int.emod_nonneg a (Int.ne_of_gt h), Int.emod_lt_of_pos a h⟩
theorem knot_rg (a b i j : Int) : 0 ≤ knotV a b i j ∧ knotV a b i j ≤ 65535 := by
  have := emod_rg ((let one := (a + 48271 * b + 7) % 2147483647
  let two := (one * one + 69621 * i + 1) % 2147483629
  let three := (two * two + 16807 * j + 1) % 2147483587
  (three * three + three) % 2147483579)) (m := 65536) (by decide)
  have e : knotV a b i j = (let one := (a + 48271 * b + 7) % 2147483647
  let two := (one * one + 69621 * i + 1) % 2147483629
  let three := (two * two + 16807 * j + 1) % 2147483587
  (three * three + three) % 2147483579) % 65536 := rfl
  rw [e]
  omega
theorem mix_rg {s p u v B : Int} (h0 : 0 ≤ p) (h1 : p ≤ s) (u0 : 0 ≤ u ∧ u ≤ B) (v0 : 0 ≤ v ∧ v ≤ B) : 0 ≤ (s - p) * u + p * v ∧ (s - p) * u + p * v ≤ s * B := by
  have a1 := Int.mul_nonneg (show 0 ≤ s - p by omega) u0.1
  have a2 := Int.mul_nonneg h0 v0.1
  have a3 := Int.mul_le_mul_of_nonneg_left u0.2 (show 0 ≤ s - p by omega)
  have a4 := Int.mul_le_mul_of_nonneg_left v0.2 h0
  have a5 : (s - p) * B + p * B = s * B := by rw [← Int.add_mul]; congr 1; omega
  omega
theorem noise_rg {a b c x z : Int} (c0 : 0 ≤ c) (c1 : c ≤ 3) : 0 ≤ noiseV a b c x z ∧ noiseV a b c x z ≤ 65535 := by
  have hs := side_le c0 c1
  have p0 : 0 < (1 : Int) * 2 ^ c.toNat := by omega
  have hx := emod_rg x p0
  have hz := emod_rg z p0
  unfold noiseV
  generalize (1 : Int) * 2 ^ c.toNat = s at *
  have n1 := mix_rg hx.1 (Int.le_of_lt hx.2) (knot_rg a b (x / s) (z / s)) (knot_rg a b (x / s + 1) (z / s))
  have n2 := mix_rg hx.1 (Int.le_of_lt hx.2) (knot_rg a b (x / s) (z / s + 1)) (knot_rg a b (x / s + 1) (z / s + 1))
  have n3 := mix_rg hz.1 (Int.le_of_lt hz.2) n1 n2
  dsimp only
  have ss : 0 < s * s := Int.mul_pos p0 p0
  refine ⟨Int.ediv_nonneg n3.1 (Int.le_of_lt ss), ?_⟩
  refine Int.ediv_le_of_le_mul ss ?_
  have e : s * (s * 65535) = 65535 * (s * s) := by rw [← Int.mul_assoc, Int.mul_comm]
  omega
theorem mul_bd {a b B : Int} (ha : -B ≤ a ∧ a ≤ B) (hb : -B ≤ b ∧ b ≤ B) : -(B * B) ≤ a * b ∧ a * b ≤ B * B := by
  have h1 : a.natAbs ≤ B.toNat := by omega
  have h2 : b.natAbs ≤ B.toNat := by omega
  have h3 := Nat.mul_le_mul h1 h2
  rw [← Int.natAbs_mul] at h3
  have h4 : ((B.toNat * B.toNat : Nat) : Int) = B * B := by rw [Int.natCast_mul, Int.toNat_of_nonneg (by omega)]
  omega
theorem div_bd {a d B : Int} (ha : -B ≤ a ∧ a ≤ B) (hd : 1 ≤ d) : -B ≤ a / d ∧ a / d ≤ B := by
  have hB : 0 ≤ B := by omega
  have h1 := Int.mul_le_mul_of_nonneg_left hd hB
  rw [Int.mul_one] at h1
  refine ⟨(Int.le_ediv_iff_mul_le (by omega)).mpr ?_, Int.ediv_le_of_le_mul (by omega) (by omega)⟩
  rw [Int.neg_mul]
  omega
theorem Bnd_pos : ∀ r, 16777216 ≤ Bnd r
  | 0 => by decide
  | 1 => by decide
  | _ + 2 => by show 16777216 ≤ (2 : Int) ^ 96; decide
theorem Bnd_step {r : Nat} (h : r + 1 ≤ 2) : 2 * Bnd r ≤ Bnd (r + 1) ∧ Bnd r * Bnd r = Bnd (r + 1) := by
  match r, h with
  | 0, _ => exact ⟨by decide, by decide⟩
  | 1, _ => exact ⟨by decide, by decide⟩
def stepV (s : Stp) (vals : List Int) (seed x z : Int) : Int :=
  if s.w = "whole" then s.ns.getD 0 0
  else if s.w = "x" then x + s.ns.getD 0 0
  else if s.w = "z" then z + s.ns.getD 0 0
  else if s.w = "noise" then noiseV seed (s.ns.getD 0 0) (s.ns.getD 1 0) (x + s.ns.getD 2 0) (z + s.ns.getD 3 0)
  else recV s vals
theorem w_ne : ("x" : Str) ≠ "whole" ∧ ("z" : Str) ≠ "whole" ∧ ("z" : Str) ≠ "x" ∧ ("noise" : Str) ≠ "whole" ∧ ("noise" : Str) ≠ "x" ∧ ("noise" : Str) ≠ "z" := by decide
theorem sv_whole (ns vals : List Int) (seed x z : Int) : stepV ⟨"whole", ns⟩ vals seed x z = ns.getD 0 0 := by simp [stepV]
theorem sv_x (ns vals : List Int) (seed x z : Int) : stepV ⟨"x", ns⟩ vals seed x z = x + ns.getD 0 0 := if_neg w_ne.1 |>.trans (if_pos rfl)
theorem sv_z (ns vals : List Int) (seed x z : Int) : stepV ⟨"z", ns⟩ vals seed x z = z + ns.getD 0 0 := if_neg w_ne.2.1 |>.trans ((if_neg w_ne.2.2.1).trans (if_pos rfl))
theorem sv_noise (ns vals : List Int) (seed x z : Int) : stepV ⟨"noise", ns⟩ vals seed x z = noiseV seed (ns.getD 0 0) (ns.getD 1 0) (x + ns.getD 2 0) (z + ns.getD 3 0) := if_neg w_ne.2.2.2.1 |>.trans ((if_neg w_ne.2.2.2.2.1).trans ((if_neg w_ne.2.2.2.2.2).trans (if_pos rfl)))
theorem inner_ne {x : Str} (h : Inner x) : x ≠ "whole" ∧ x ≠ "x" ∧ x ≠ "z" ∧ x ≠ "noise" := by
  cases h with
  | over => decide
  | lt4 => decide
  | bin h => exact ⟨(bin_ne h).2.2.2.1, (bin_ne h).2.2.2.2.1, (bin_ne h).2.2.2.2.2.1, (bin_ne h).2.2.2.2.2.2.1⟩
theorem sv_inner {s : Stp} (h : Inner s.w) (vals : List Int) (seed x z : Int) : stepV s vals seed x z = recV s vals :=
  have n := inner_ne h
  if_neg n.1 |>.trans ((if_neg n.2.1).trans ((if_neg n.2.2.1).trans (if_neg n.2.2.2)))
theorem getD_snoc {vs : List Int} {v : Int} : (vs ++ [v]).getD vs.length 0 = v := by simp
theorem getD_app {vs : List Int} {v : Int} {j : Nat} (h : j < vs.length) : (vs ++ [v]).getD j 0 = vs.getD j 0 := by
  rw [List.getD_eq_getElem?_getD, List.getElem?_append_left h, ← List.getD_eq_getElem?_getD]
theorem recV_bd {fs : List Stp} {vals : List Int} {s : Stp} {r : Nat} (hb : Bok fs vals) (hs : fs[vals.length]? = some s) (hin : Inner s.w) (hr : r ≤ 2) (h : Rk fs r vals.length) : -Bnd r ≤ recV s vals ∧ recV s vals ≤ Bnd r := by
  cases h with
  | whole h => rw [hs] at h; cases h; exact absurd rfl (inner_ne hin).1
  | x h => rw [hs] at h; cases h; exact absurd rfl (inner_ne hin).2.1
  | z h => rw [hs] at h; cases h; exact absurd rfl (inner_ne hin).2.2.1
  | noise h => rw [hs] at h; cases h; exact absurd rfl (inner_ne hin).2.2.2
  | over h hj lt d0 d1 =>
    rw [hs] at h; cases h
    rename_i r j d
    have b := hb r j (by omega) lt hj
    have st := Bnd_step hr
    show _ ≤ vals.getD j 0 / d ∧ vals.getD j 0 / d ≤ _
    have := div_bd b d0
    omega
  | bin hx h hj hk lt m =>
    rw [hs] at h; cases h
    rename_i r j k x
    have b1 := hb r j (by omega) lt hj
    have b2 := hb r k (by omega) m hk
    have st := Bnd_step hr
    have hm := mul_bd b1 b2
    rw [st.2] at hm
    cases hx
    · show _ ≤ vals.getD j 0 + vals.getD k 0 ∧ vals.getD j 0 + vals.getD k 0 ≤ _
      omega
    · show _ ≤ vals.getD j 0 - vals.getD k 0 ∧ vals.getD j 0 - vals.getD k 0 ≤ _
      omega
    · exact hm
    · show _ ≤ (if vals.getD k 0 < vals.getD j 0 then vals.getD k 0 else vals.getD j 0) ∧ (if vals.getD k 0 < vals.getD j 0 then vals.getD k 0 else vals.getD j 0) ≤ _
      have := Bnd_pos r
      split <;> omega
    · show _ ≤ (if vals.getD k 0 > vals.getD j 0 then vals.getD k 0 else vals.getD j 0) ∧ (if vals.getD k 0 > vals.getD j 0 then vals.getD k 0 else vals.getD j 0) ≤ _
      have := Bnd_pos r
      split <;> omega
  | lt4 h hj hk ha hb' lt m n o =>
    rw [hs] at h; cases h
    rename_i r j k a b
    have b1 := hb r a (by omega) n ha
    have b2 := hb r b (by omega) o hb'
    have st := Bnd_step hr
    have := Bnd_pos r
    show _ ≤ (if vals.getD j 0 < vals.getD k 0 then vals.getD a 0 else vals.getD b 0) ∧ (if vals.getD j 0 < vals.getD k 0 then vals.getD a 0 else vals.getD b 0) ≤ _
    split <;> omega
theorem rk_inner {fs : List Stp} {r i : Nat} {s : Stp} (h : Rk fs r i) (hs : fs[i]? = some s) (n1 : s.w ≠ "whole") (n2 : s.w ≠ "x") (n3 : s.w ≠ "z") (n4 : s.w ≠ "noise") : Inner s.w := by
  cases h with
  | whole h => rw [hs] at h; cases h; exact absurd rfl n1
  | x h => rw [hs] at h; cases h; exact absurd rfl n2
  | z h => rw [hs] at h; cases h; exact absurd rfl n3
  | noise h => rw [hs] at h; cases h; exact absurd rfl n4
  | over h => rw [hs] at h; cases h; exact .over
  | bin hx h => rw [hs] at h; cases h; exact .bin hx
  | lt4 h => rw [hs] at h; cases h; exact .lt4
theorem Bok.snoc {fs : List Stp} {vals : List Int} {v : Int} (hb : Bok fs vals) (h : ∀ r, r ≤ 2 → Rk fs r vals.length → -Bnd r ≤ v ∧ v ≤ Bnd r) : Bok fs (vals ++ [v]) := by
  intro r j hr hj hk
  by_cases c : j < vals.length
  · rw [getD_app c]; exact hb r j hr c hk
  · have e : j = vals.length := by simp at hj; omega
    subst e
    rw [getD_snoc]; exact h r hr hk
/-- the values of all steps -/
def runV (seed x z : Int) (fs : List Stp) : List Int := fs.foldl (fun vs s => vs ++ [stepV s vs seed x z]) []
theorem runV_len (seed x z : Int) (fs : List Stp) : (runV seed x z fs).length = fs.length := by
  have : ∀ (l : List Stp) (vs : List Int), (l.foldl (fun vs s => vs ++ [stepV s vs seed x z]) vs).length = vs.length + l.length := by
    intro l
    induction l with
    | nil => intro vs; rfl
    | cons a l ih => intro vs; rw [List.foldl_cons, ih]; simp; omega
  have := this fs []
  rw [List.length_nil, Nat.zero_add] at this
  exact this
theorem runV_snoc (seed x z : Int) (fs : List Stp) (s : Stp) : runV seed x z (fs ++ [s]) = runV seed x z fs ++ [stepV s (runV seed x z fs) seed x z] := by
  unfold runV; rw [List.foldl_append]; rfl
def lastV (seed x z : Int) (fs : List Stp) : Int := (runV seed x z fs).getLastD 0
/-! ### run_steps -/
/-- the steps of a field are fine -/
def CodeOk (fs : List Stp) : Prop := AllR 2 fs ∧ 0 < fs.length ∧ fs.length ≤ 1000
def spRun : Sp := fun vs H Q _ => ∃ (l : Addr) (fs : List Stp) (seed x z : Int), vs = [.ref l, .int seed, .int x, .int z] ∧ StL H l fs ∧ CodeOk fs ∧ (-8388608 ≤ x ∧ x ≤ 8388608 ∧ -8388608 ≤ z ∧ z ≤ 8388608) ∧ ∀ H', Ex H H' → Q (.int (lastV seed x z fs)) H'
theorem h_run_steps (F : DefAt K mg "run_steps" s_run_steps [] []) (T : Txt K w mg D) (G_noise_at : Has P w K mg base 2 "noise_at" spNoise []) (G_reckoned : Has P w K mg base 1 "reckoned" (spReck K) []) : Has P w K mg base 3 "run_steps" spRun [] := by
  refine has_of F sc_run_steps (fun _ _ _ _ _ _ us hl => match us, hl with | [_, _, _, _], _ => rfl) ?_ ?_
  · rintro _ _ _ _ ⟨_, _, _, _, _, rfl, _⟩; rfl
  · rintro f cdv A outer s0 H vs Q E hr ⟨l, fs, seed, x, z, rfl, ⟨us, hl, hus⟩, ⟨hall, hlen0, hlen⟩, hb, kk⟩
    refine ⟨_, pss_cons (ps_set (i := 4) sc_run_steps.nd rfl (Or.inl rfl) (pe_lst (pa_nil)))
      (pss_cons (ps_for PassesOwn.never rfl (pi_list (pv 0)) (pg_name (i := 5) sc_run_steps.nd rfl (Or.inl rfl)) (pss_cons (ps_set (i := 6) sc_run_steps.nd rfl (Or.inl rfl) (pe_ix ix_tup (pv 5) (pe_int) (fun _ _ => rfl)))
      (pss_one (ps_if (pt_cmpR op_eq (pv 6) (pe_str) (nomark _)) (pss_one (ps_expr (pe_bm PySem.F.plainAttrs_list PySem.F.slot_list_append PySem.F.type_list_append mt_append (pv 4) (pa_cons (pe_ix ix_tup (pv 5) (pe_int) (fun _ _ => rfl)) (pa_nil))))) (pss_one (ps_if (pt_cmpR op_eq (pv 6) (pe_str) (nomark _)) (pss_one (ps_expr (pe_bm PySem.F.plainAttrs_list PySem.F.slot_list_append PySem.F.type_list_append mt_append (pv 4) (pa_cons (pe_op op_add (pv 2) (pe_ix ix_tup (pv 5) (pe_int) (fun _ _ => rfl))) (pa_nil))))) (pss_one (ps_if (pt_cmpR op_eq (pv 6) (pe_str) (nomark _)) (pss_one (ps_expr (pe_bm PySem.F.plainAttrs_list PySem.F.slot_list_append PySem.F.type_list_append mt_append (pv 4) (pa_cons (pe_op op_add (pv 3) (pe_ix ix_tup (pv 5) (pe_int) (fun _ _ => rfl))) (pa_nil))))) (pss_one (ps_if (pt_cmpR op_eq (pv 6) (pe_str) (nomark _)) (pss_one (ps_expr (pe_bm PySem.F.plainAttrs_list PySem.F.slot_list_append PySem.F.type_list_append mt_append (pv 4) (pa_cons (pe_c G_noise_at (hr.mono (by decide)) (by rfl) (pa_cons (pv 1) (pa_cons (pe_ix ix_tup (pv 5) (pe_int) (fun _ _ => rfl)) (pa_cons (pe_ix ix_tup (pv 5) (pe_int) (fun _ _ => rfl)) (pa_cons (pe_op op_add (pv 2) (pe_ix ix_tup (pv 5) (pe_int) (fun _ _ => rfl))) (pa_cons (pe_op op_add (pv 3) (pe_ix ix_tup (pv 5) (pe_int) (fun _ _ => rfl))) (pa_nil))))))) (pa_nil))))) (pss_one (ps_expr (pe_bm PySem.F.plainAttrs_list PySem.F.slot_list_append PySem.F.type_list_append mt_append (pv 4) (pa_cons (pe_c G_reckoned (hr.mono (by decide)) (by rfl) (pa_cons (pv 5) (pa_cons (pv 4) (pa_nil)))) (pa_nil)))))))))))))))
      (pss_one (ps_ret (pe_ix ix_list (pv 4) (pe_un un_neg (pe_int)) (fun _ _ => rfl))))), ?_⟩
    have hul := pair_len hus
    walk_at "rd"
    rename_i d hd
    refine ⟨⟨us, sl_new hd (Evl.sq_of hl)⟩, ?_⟩
    have hln : l ≠ d := ne_of_none hl hd
    refine for_list (K := K) (a := l) (xs := us) (fun i σ H' => Here (Ex H H' ∧ H' d = some (.lst ((runV seed x z (fs.take i)).map V.int)) ∧ Bok fs (runV seed x z (fs.take i)) ∧ ∃ r0 r1, σ = [some (.ref l), some (.int seed), some (.int x), some (.int z), some (.ref d), r0, r1])) ?_ (fun i σ H' _ hh => sl_ex hh.get.1 (Evl.sq_of hl)) ?_ ?_
    · exact .it ⟨by walk_at "ex", upd_same, fun r j _ h => absurd h (Nat.not_lt_zero j), _, _, rfl⟩
    · intro i u σ H' hu hh
      obtain ⟨he, hd1, hbk, r0, r1, rfl⟩ := hh.get
      obtain ⟨s, hs, p, rfl, hp⟩ := pair_get hus hu
      have hi : i < fs.length := (List.getElem?_eq_some_iff.mp hs).1
      have hp' : Tp H' p s.its := tp_ex he hp
      have hvl : (runV seed x z (fs.take i)).length = i := by rw [runV_len, List.length_take]; omega
      have hrk := hall i hi
      have e1 : fs.take (i + 1) = fs.take i ++ [s] := take_snoc hs
      -- what the turn leaves
      have fin : ∀ (H2 : Hp) (v : Int), Ex H' H2 → v = stepV s (runV seed x z (fs.take i)) seed x z → (∀ r, r ≤ 2 → Rk fs r i → -Bnd r ≤ v ∧ v ≤ Bnd r) → ∀ w1, Here (Ex H (upd H2 d (.lst ((runV seed x z (fs.take i)).map V.int ++ [.int v]))) ∧ (upd H2 d (.lst ((runV seed x z (fs.take i)).map V.int ++ [.int v]))) d = some (.lst ((runV seed x z (fs.take (i + 1))).map V.int)) ∧ Bok fs (runV seed x z (fs.take (i + 1))) ∧ ∃ r0 r1, [some (V.ref l), some (.int seed), some (.int x), some (.int z), some (.ref d), some (.ref p), some w1] = [some (.ref l), some (.int seed), some (.int x), some (.int z), some (.ref d), r0, r1]) := by
        intro H2 v e2 hv hbd w1
        refine .it ⟨Ex.mu (he.tr e2) hd, ?_, ?_, _, _, rfl⟩
        · rw [e1, runV_snoc, List.map_append, ← hv]; exact upd_same
        · rw [e1, runV_snoc, ← hv]
          exact hbk.snoc fun r hr hk => hbd r hr (by rw [hvl] at hk; exact hk)
      have hz : ((runV seed x z (fs.take i)).map V.int).length < sizeLine := Evl.sz_lt (by rw [List.length_map, hvl]; omega)
      by_cases hin : Inner s.w
      · obtain ⟨n1, n2, n3, n4⟩ := inner_ne hin
        have hp2 : Tp H' p (.str s.w :: s.ns.map V.int) := hp'
        walk_at "rd"
        refine ⟨p, d, s, fs, _, rfl, hp', Evl.sq_of hd1, hin, by rw [hvl]; exact hs, by rw [hvl]; exact hrk, hbk, fun H2 e2 => ?_⟩
        refine ⟨d, _, _, rfl, rfl, e2 _ _ hd1, hz, ?_⟩
        exact fin H2 _ e2 (sv_inner hin ..).symm (fun r hr hk => recV_bd hbk (by rw [hvl]; exact hs) hin hr (by rw [hvl]; exact hk)) _
      cases hrk with
      | whole h k0 k1 =>
        rw [hs] at h; cases h
        have hp2 : Tp H' p [.str "whole", .int _] := hp'
        walk_at "rd"
        refine ⟨d, _, _, rfl, rfl, hd1, hz, ?_⟩
        exact fin H' _ (Ex.rfl' _) (sv_whole ..).symm (fun r _ _ => by have := Bnd_pos r; simp only [List.getD_cons_zero]; omega) _
      | x h d0 d1 =>
        rw [hs] at h; cases h
        have hp2 : Tp H' p [.str "x", .int _] := hp'
        walk_at "rd"
        refine ⟨d, _, _, rfl, rfl, hd1, hz, ?_⟩
        exact fin H' _ (Ex.rfl' _) (sv_x ..).symm (fun r _ _ => by have := Bnd_pos r; simp only [List.getD_cons_zero]; omega) _
      | z h d0 d1 =>
        rw [hs] at h; cases h
        have hp2 : Tp H' p [.str "z", .int _] := hp'
        walk_at "rd"
        refine ⟨d, _, _, rfl, rfl, hd1, hz, ?_⟩
        exact fin H' _ (Ex.rfl' _) (sv_z ..).symm (fun r _ _ => by have := Bnd_pos r; simp only [List.getD_cons_zero]; omega) _
      | noise h a0 a1 b0 b1 c0 c1 d0 d1 =>
        rw [hs] at h; cases h
        have hp2 : Tp H' p [.str "noise", .int _, .int _, .int _, .int _] := hp'
        walk_at "rd"
        intro H2 e2
        refine ⟨d, _, _, rfl, rfl, e2 _ _ hd1, hz, ?_⟩
        exact fin H2 _ e2 (sv_noise ..).symm (fun r _ _ => by have := Bnd_pos r; exact ⟨Int.le_trans (by omega) (noise_rg b0 b1).1, Int.le_trans (noise_rg b0 b1).2 (by omega)⟩) _
      | over h => rw [hs] at h; cases h; exact absurd .over hin
      | bin hx h => rw [hs] at h; cases h; exact absurd (.bin hx) hin
      | lt4 h => rw [hs] at h; cases h; exact absurd .lt4 hin
    · intro σ H' hh
      obtain ⟨he, hd1, hbk, r0, r1, rfl⟩ := hh.get
      rw [List.take_of_length_le (by omega)] at hd1
      obtain ⟨v, hv⟩ : ∃ v, (runV seed x z fs).getLast? = some v := by
        cases h : (runV seed x z fs).getLast? with
        | some v => exact ⟨v, rfl⟩
        | none =>
          have h1 := List.getLast?_eq_none_iff.mp h
          have h2 := runV_len seed x z fs
          rw [h1] at h2
          simp at h2
          omega
      have ev : lastV seed x z fs = v := by
        unfold lastV
        rw [List.getLastD_eq_getLast?, hv]; rfl
      obtain ⟨init, hi⟩ := List.getLast?_eq_some_iff.mp hv
      walk_at "rd"
      refine ⟨d, _, _, .int v, rfl, rfl, Evl.sq_of hd1, ?_, ?_⟩
      · rw [hi, List.map_append]; exact atI_last _ _
      · refine qi (kk H' he) ev

end Kw
set_option Elab.async false
set_option linter.all false
set_option maxRecDepth 100000
set_option maxHeartbeats 2000000
namespace Kw
open PySem PySem.Spec PyProof.Rows L2
local macro_rules | `(tactic| walk_at "in") => `(tactic| repeat (first | assumption | refine in_new (by assumption) ?_ | refine in_ex (by assumption) ?_))
local macro_rules | `(tactic| walk_at "lk") => `(tactic| first | exact lk_laid _ | exact lk_code _ | exact lk_grain _ | exact lk_past _ | exact lk_future _ | exact lk_shelf _ | exact lk_last _)
local macro_rules | `(tactic| walk_at "tp") => `(tactic| repeat (first | assumption | exact tp_up | refine tp_new (by assumption) ?_ | refine tp_lst (by assumption) ?_ | refine tp_ex (by assumption) ?_ | refine tp_mv (by assumption) ?_))
local macro_rules | `(tactic| walk_at "sq") => `(tactic| repeat (first | assumption | exact sq_up | exact sl_up | exact tp_sq (by assumption) | exact Evl.sq_of (by assumption) | refine sq_new (by assumption) ?_ | refine sl_new (by assumption) ?_ | refine sq_lst (by assumption) ?_ | refine sq_ex (by assumption) ?_ | refine sl_ex (by assumption) ?_ | refine sq_mv (by assumption) ?_))
local macro_rules | `(tactic| walk_at "ex") => `(tactic| repeat (first | assumption | exact Ex.rfl' _ | refine Ex.nw ?_ (by assumption) | refine Ex.tr ?_ (by assumption)))
local macro_rules | `(tactic| walk_at "cond") => `(tactic| first | decide | exact Or.inl ⟨by omega, by omega⟩ | exact Or.inr ⟨by omega, by omega⟩ | exact ⟨by omega, by omega⟩ | omega)
local macro_rules | `(tactic| walk_at "rd1") => `(tactic| first
  | refine ⟨_, rfl, ?_⟩
  | refine ⟨_, _, rfl, rfl, ?_⟩
  | refine ⟨_, _, rfl, ?_⟩
  | refine ⟨rfl, ?_⟩
  | refine ⟨_, _, _, rfl, ?_⟩
  | (refine' ⟨_, _, _, _, rfl, rfl, ?h, ?ha, ?q⟩; (case h => walk_at "sq"); (case ha => first | assumption | rfl | exact at_c0 _ _ | exact at_c1 _ _ _ | exact at_c2 _ _ _ _ | (refine at_vals ?_; omega) | exact atI_nat (by assumption)))
  | refine ⟨_, _, _, _, rfl, ?_⟩
  | refine ⟨_, _, _, _, _, rfl, ?_⟩
  | (refine' ⟨_, _, rfl, ?h, ?ha, ?q⟩; (case h => walk_at "sq"); (case ha => first | rfl | exact Nat.le_of_ble_eq_true rfl))
  | refine Or.inr ⟨_, rfl, ?_⟩
  | (refine' ⟨_, _, rfl, Or.inr ?h, ?q⟩; (case h => walk_at "sq"))
  | (refine' ⟨_, _, rfl, Or.inl ?h, ?q⟩; (case h => walk_at "sq"))
  | refine ⟨_, _, _, _, _, rfl, .ty _, .base (.int _), kit_ty kit_ii, ?_⟩
  | refine ⟨_, _, _, _, _, rfl, .ty _, .base (.int _), kit_ty kit_ib, ?_⟩
  | refine ⟨_, _, _, _, _, rfl, .ty _, .base (.str _), kit_ty kit_ss, ?_⟩
  | refine ⟨_, _, _, _, _, rfl, .ty _, .base (.tup (by assumption)), kit_ty kit_tt, ?_⟩
  | with_reducible refine iteT ?_
  | with_reducible refine iteF ?_
  | refine ite_yes (by first | decide | omega) ?_
  | refine ite_no (by first | decide | omega) ?_
  | refine ite_no (fun z => absurd (V.str.inj z) (by assumption)) ?_
  | refine ite_no (fun z => absurd (V.int.inj z) (by omega)) ?_
  | refine ite_yes (congrArg V.int (by omega)) ?_
  | refine ite_nyes (by first | decide | omega) ?_
  | refine ite_nno (by first | decide | omega) ?_
  | (refine' And.intro (Or.inl ⟨rfl, _, ?h⟩) ?q; (case h => first | exact SqL.of (by first | assumption | exact upd_same) | walk_at "sq"))
  | (refine' And.intro ?h ?q; (case h => exact Evl.sz_of (Nat.le_of_ble_eq_true rfl)))
  | refine fun p (hp : (_ : Hp) p = none) => ?_
  | (refine' ⟨_, _, rfl, Or.inr ?h, rfl, rfl, ?q⟩; (case h => walk_at "sq"))
  | (refine' ⟨_, _, rfl, Or.inl ?h, rfl, rfl, ?q⟩; (case h => walk_at "sq"))
  | (refine' ⟨_, _, _, _, _, rfl, ?h, ?c, ?n, ?l, ?q⟩; (case h => walk_at "in"); (case c => assumption); (case n => assumption); (case l => walk_at "lk"))
  | (refine' ⟨_, _, _, rfl, ?h, ?l, ?q⟩; (case h => walk_at "in"); (case l => exact lk_none (by decide) _))
  | (refine' And.intro ?h ?q; (case h => walk_at "cond")))
local macro_rules | `(tactic| walk_at "rd") => `(tactic| repeat walk_at "rd1")
local macro_rules | `(tactic| walk_at "rs") => `(tactic| repeat' (first | walk_at "rd1" | refine ite2d (fun h => ?_) (fun h => ?_) | refine ite2n (fun h => ?_) (fun h => ?_) | refine ite2 (fun h => ?_) (fun h => ?_)))
local macro_rules | `(tactic| walk_at "pu") => `(tactic| repeat (first | assumption | refine purse_new ?_ (by assumption)))
local macro_rules | `(tactic| walk_at "mv") => `(tactic| repeat (first | assumption | exact Mv.rf _ _ | refine Mv.nw ?_ (by assumption) | refine Mv.tr ?_ (by assumption)))

variable {P : Program} {w : World} {K : PySem.W.Frag} {mg : Str → Option Value} {base : Heap} {D : Ad}
/-! ### ranges over the whole land -/
def Rbk (fs : List Stp) (rs : List (Int × Int)) : Prop := ∀ r j, r ≤ 2 → j < rs.length → Rk fs r j → (-Bnd r ≤ (rs.getD j (0, 0)).1 ∧ (rs.getD j (0, 0)).1 ≤ Bnd r) ∧ -Bnd r ≤ (rs.getD j (0, 0)).2 ∧ (rs.getD j (0, 0)).2 ≤ Bnd r
def InB (fs : List Stp) (i : Nat) (lo hi : Int) : Prop := ∀ r, r ≤ 2 → Rk fs r i → (-Bnd r ≤ lo ∧ lo ≤ Bnd r) ∧ -Bnd r ≤ hi ∧ hi ≤ Bnd r
def spNRange (K : PySem.W.Frag) : Sp := fun vs H Q _ => ∃ (p q : Addr) (seed a b c d : Int), vs = [.int seed, .ref p, .ref q] ∧ Tp H p [.str "noise", .int a, .int b, .int c, .int d] ∧ 0 ≤ b ∧ b ≤ 3 ∧ -100 ≤ c ∧ c ≤ 100 ∧ -100 ≤ d ∧ d ≤ 100 ∧ SqT K H q [.int (-1000000), .int (-1000000), .int 1000000, .int 1000000] ∧ ∀ t H', Ex H H' → Tp H' t [.int 0, .int 65535] → Q (.ref t) H'
theorem h_noise_range (F : DefAt K mg "noise_range" s_noise_range [] []) (T : Txt K w mg D) : Has P w K mg base 1 "noise_range" (spNRange K) [] := by
  refine has_of F sc_noise_range (fun _ _ _ _ _ _ us hl => match us, hl with | [_, _, _], _ => rfl) ?_ ?_
  · rintro _ _ _ _ ⟨_, _, _, _, _, _, _, rfl, _⟩; rfl
  · rintro f cdv A outer s0 H vs Q E hr ⟨p, q, seed, a, b, c, d, rfl, hp, b0, b1, c0, c1, d0, d1, hq, kk⟩
    refine ⟨_, pss_cons (ps_asg (pv 1) (pg_tup rfl (pgs_cons (pg_name (i := 3) sc_noise_range.nd rfl (Or.inl rfl)) (pgs_cons (pg_name (i := 4) sc_noise_range.nd rfl (Or.inr rfl)) (pgs_cons (pg_name (i := 5) sc_noise_range.nd rfl (Or.inr rfl)) (pgs_cons (pg_name (i := 6) sc_noise_range.nd rfl (Or.inl rfl)) (pgs_cons (pg_name (i := 7) sc_noise_range.nd rfl (Or.inl rfl)) (pgs_nil))))))))
      (pss_cons (ps_asg (pv 2) (pg_tup rfl (pgs_cons (pg_name (i := 8) sc_noise_range.nd rfl (Or.inl rfl)) (pgs_cons (pg_name (i := 9) sc_noise_range.nd rfl (Or.inl rfl)) (pgs_cons (pg_name (i := 10) sc_noise_range.nd rfl (Or.inl rfl)) (pgs_cons (pg_name (i := 11) sc_noise_range.nd rfl (Or.inl rfl)) (pgs_nil)))))))
      (pss_cons (ps_set (i := 12) sc_noise_range.nd rfl (Or.inl rfl) (pe_op op_shl (pe_int) (pv 5)))
      (pss_cons (ps_set (i := 13) sc_noise_range.nd rfl (Or.inl rfl) (pe_op op_add (pe_op op_sub (pe_op op_fdiv (pe_op op_add (pv 10) (pv 6)) (pv 12)) (pe_op op_fdiv (pe_op op_add (pv 8) (pv 6)) (pv 12))) (pe_int)))
      (pss_cons (ps_set (i := 14) sc_noise_range.nd rfl (Or.inl rfl) (pe_op op_add (pe_op op_sub (pe_op op_fdiv (pe_op op_add (pv 11) (pv 7)) (pv 12)) (pe_op op_fdiv (pe_op op_add (pv 9) (pv 7)) (pv 12))) (pe_int)))
      (pss_cons (ps_if (pt_cmpR op_gt (pe_op op_mul (pv 13) (pv 14)) (pe_gi T.MOST_SQUARES (by rfl)) (nomark _)) (pss_one (ps_ret (pe_tup (pa_cons (pe_int) (pa_cons (pe_gi T.MOST_KNOT (by rfl)) (pa_nil)))))) (pss_nil))
      (pss_never)))))), ?_⟩
    iterate 15 (walk_at "rd1")
    refine ⟨⟨b0, by omega, by decide⟩, ?_⟩
    generalize hσ : List.set _ 11 (some (V.int 1000000)) = σ
    have eσ : σ = [some (.int seed), some (.ref p), some (.ref q), some (.str "noise"), some (.int a), some (.int b), some (.int c), some (.int d), some (.int (-1000000)), some (.int (-1000000)), some (.int 1000000), some (.int 1000000), none, none, none, none, none, none, none, none, none, none] := hσ.symm
    clear hσ
    subst eσ
    have hs := side_le b0 b1
    generalize hS : (fun i j => V.int (i * 2 ^ Int.toNat j)) 1 b = S
    obtain ⟨t, rfl, ht⟩ : ∃ t : Int, S = .int t ∧ (t = 1 ∨ t = 2 ∨ t = 4 ∨ t = 8) := ⟨_, hS.symm, hs⟩
    clear hS hs
    have w1 : ∀ e : Int, -100 ≤ e → e ≤ 100 → 100000 ≤ (1000000 + e) / t - (-1000000 + e) / t + 1 ∧ (1000000 + e) / t - (-1000000 + e) / t + 1 ≤ 10000000 := by
      intro e e0 e1
      rcases ht with h | h | h | h <;> rw [h] <;> omega
    have wx := w1 c c0 c1
    have wz := w1 d d0 d1
    have wm := Int.mul_le_mul wx.1 wz.1 (by decide) (by omega)
    have t0 : 0 < t ∧ t < 10 := by omega
    clear ht w1
    walk_at "rd"
    exact kk _ _ (by walk_at "ex") tp_up
/-- a list of ranges -/
def RgL (H : Hp) (l : Addr) (rs : List (Int × Int)) : Prop := ∃ us, H l = some (.lst us) ∧ Paired (fun u (r : Int × Int) => ∃ p, u = V.ref p ∧ Tp H p [.int r.1, .int r.2]) us rs
theorem bin_inv {fs : List Stp} {r i j k : Nat} {x : Str} (hx : Bin5 x) (h : Rk fs r i) (e : fs[i]? = some ⟨x, [(j : Int), (k : Int)]⟩) : ∃ q, r = q + 1 ∧ Rk fs q j ∧ Rk fs q k := by
  have n := bin_ne hx
  cases h with
  | whole h => rw [h] at e; injection e with e; injection e with e _; exact absurd e.symm n.2.2.2.1
  | x h => rw [h] at e; injection e with e; injection e with e _; exact absurd e.symm n.2.2.2.2.1
  | z h => rw [h] at e; injection e with e; injection e with e _; exact absurd e.symm n.2.2.2.2.2.1
  | noise h => rw [h] at e; injection e with e; injection e with e _; exact absurd e.symm n.2.2.2.2.2.2.1
  | over h => rw [h] at e; injection e with e; injection e with e _; exact absurd e.symm n.2.2.2.2.2.2.2.1
  | bin hx h hj hk =>
    rw [h] at e; injection e with e; injection e with _ e; injection e with e1 e; injection e with e2 _
    have e1 := Int.ofNat.inj e1
    have e2 := Int.ofNat.inj e2
    subst e1 e2
    exact ⟨_, rfl, hj, hk⟩
  | lt4 h => rw [h] at e; injection e with e; injection e with e _; exact absurd e.symm n.2.2.2.2.2.2.2.2
theorem over_inv {fs : List Stp} {r i j : Nat} {d : Int} (h : Rk fs r i) (e : fs[i]? = some ⟨"over", [(j : Int), d]⟩) : ∃ q, r = q + 1 ∧ Rk fs q j := by
  cases h with
  | whole h => rw [h] at e; injection e with e; injection e with e _; exact absurd e (by decide)
  | x h => rw [h] at e; injection e with e; injection e with e _; exact absurd e (by decide)
  | z h => rw [h] at e; injection e with e; injection e with e _; exact absurd e (by decide)
  | noise h => rw [h] at e; injection e with e; injection e with e _; exact absurd e (by decide)
  | over h hj l =>
    rw [h] at e; injection e with e; injection e with _ e; injection e with e1 _
    have e1 := Int.ofNat.inj e1
    subst e1
    exact ⟨_, rfl, hj⟩
  | bin hx h => rw [h] at e; injection e with e; injection e with e _; exact absurd e (bin_ne hx).2.2.2.2.2.2.2.1
  | lt4 h => rw [h] at e; injection e with e; injection e with e _; exact absurd e (by decide)
theorem lt4_inv {fs : List Stp} {r i j k a b : Nat} (h : Rk fs r i) (e : fs[i]? = some ⟨"below", [(j : Int), (k : Int), (a : Int), (b : Int)]⟩) : ∃ q, r = q + 1 ∧ Rk fs q a ∧ Rk fs q b := by
  cases h with
  | whole h => rw [h] at e; injection e with e; injection e with e _; exact absurd e (by decide)
  | x h => rw [h] at e; injection e with e; injection e with e _; exact absurd e (by decide)
  | z h => rw [h] at e; injection e with e; injection e with e _; exact absurd e (by decide)
  | noise h => rw [h] at e; injection e with e; injection e with e _; exact absurd e (by decide)
  | over h => rw [h] at e; injection e with e; injection e with e _; exact absurd e (by decide)
  | bin hx h => rw [h] at e; injection e with e; injection e with e _; exact absurd e (bin_ne hx).2.2.2.2.2.2.2.2
  | lt4 h _ _ ha hb =>
    rw [h] at e; injection e with e; injection e with _ e; injection e with e1 e; injection e with e2 e; injection e with e3 e; injection e with e4 _
    have e3 := Int.ofNat.inj e3
    have e4 := Int.ofNat.inj e4
    subst e3 e4
    exact ⟨_, rfl, ha, hb⟩
def spRangeOf : Sp := fun vs H Q _ => ∃ (p l : Addr) (s : Stp) (fs : List Stp) (rs : List (Int × Int)), vs = [.ref p, .ref l] ∧ Tp H p s.its ∧ RgL H l rs ∧ Inner s.w ∧ fs[rs.length]? = some s ∧ Rk fs 2 rs.length ∧ Rbk fs rs ∧ ∀ t H' lo hi, Ex H H' → Tp H' t [.int lo, .int hi] → InB fs rs.length lo hi → Q (.ref t) H'
theorem h_range_of (F : DefAt K mg "range_of" s_range_of [] []) (T : Txt K w mg D) : Has P w K mg base 1 "range_of" spRangeOf [] := by
  refine has_of F sc_range_of (fun _ _ _ _ _ _ us hl => match us, hl with | [_, _], _ => rfl) ?_ ?_
  · rintro _ _ _ _ ⟨_, _, _, _, _, rfl, _⟩; rfl
  · rintro f cdv A outer s0 H vs Q E hr ⟨p, l, s, fs, rs, rfl, hp, ⟨us, hl, hus⟩, hin, hs, hrk, hb, kk⟩
    have hrs := pair_len hus
    have at_r : ∀ j, j < rs.length → ∃ u, us[j]? = some (.ref u) ∧ Tp H u [.int (rs.getD j (0, 0)).1, .int (rs.getD j (0, 0)).2] := by
      intro j hj
      obtain ⟨u, h1, p, rfl, h2⟩ := pair_get' hus (List.getElem?_eq_getElem hj)
      exact ⟨p, h1, by rw [List.getD_eq_getElem?_getD, List.getElem?_eq_getElem hj]; exact h2⟩
    refine ⟨_, pss_cons (ps_asg (pv 0) (pg_star rfl (pgs_cons (pg_name (i := 2) sc_range_of.nd rfl (Or.inl rfl)) (pgs_cons (pg_name (i := 3) sc_range_of.nd rfl (Or.inl rfl)) (pgs_star (pg_name (i := 4) sc_range_of.nd rfl (Or.inl rfl)))))))
      (pss_cons (ps_asg (pe_ix ix_list (pv 1) (pv 3) (fun _ _ => rfl)) (pg_tup rfl (pgs_cons (pg_name (i := 5) sc_range_of.nd rfl (Or.inl rfl)) (pgs_cons (pg_name (i := 6) sc_range_of.nd rfl (Or.inl rfl)) (pgs_nil)))))
      (pss_cons (ps_if (pt_cmpR op_eq (pv 2) (pe_str) (nomark _)) (pss_one (ps_ret (pe_tup (pa_cons (pe_op op_fdiv (pv 5) (pe_ix ix_list (pv 4) (pe_int) (fun _ _ => rfl))) (pa_cons (pe_op op_fdiv (pv 6) (pe_ix ix_list (pv 4) (pe_int) (fun _ _ => rfl))) (pa_nil)))))) (pss_nil))
      (pss_cons (ps_asg (pe_ix ix_list (pv 1) (pe_ix ix_list (pv 4) (pe_int) (fun _ _ => rfl)) (fun _ _ => rfl)) (pg_tup rfl (pgs_cons (pg_name (i := 7) sc_range_of.nd rfl (Or.inr rfl)) (pgs_cons (pg_name (i := 8) sc_range_of.nd rfl (Or.inr rfl)) (pgs_nil)))))
      (pss_cons (ps_if (pt_cmpR op_eq (pv 2) (pe_str) (nomark _)) (pss_cons (ps_par (i := 9) (j := 10) (by rfl) sc_range_of.nd rfl rfl (by decide) rfl rfl (pa_cons (pe_ix ix_list (pv 1) (pe_ix ix_list (pv 4) (pe_int) (fun _ _ => rfl)) (fun _ _ => rfl)) (pa_cons (pe_ix ix_list (pv 1) (pe_ix ix_list (pv 4) (pe_int) (fun _ _ => rfl)) (fun _ _ => rfl)) pa_nil)) (by rfl))
      (pss_cons (ps_if (pt_cmpR op_lt (pv 6) (pv 7) (nomark _)) (pss_one (ps_ret (pv 9))) (pss_nil))
      (pss_cons (ps_if (pt_cmpR op_ge (pv 5) (pv 8) (nomark _)) (pss_one (ps_ret (pv 10))) (pss_nil))
      (pss_one (ps_ret (pe_tup (pa_cons (pe_callB (call_min2 rfl) (by rfl) T.f_min bt_min (pa_cons (pe_ix ix_tup (pv 9) (pe_int) (fun _ _ => rfl)) (pa_cons (pe_ix ix_tup (pv 10) (pe_int) (fun _ _ => rfl)) (pa_nil)))) (pa_cons (pe_callB (call_max2 rfl) (by rfl) T.f_max bt_max (pa_cons (pe_ix ix_tup (pv 9) (pe_int) (fun _ _ => rfl)) (pa_cons (pe_ix ix_tup (pv 10) (pe_int) (fun _ _ => rfl)) (pa_nil)))) (pa_nil))))))))) (pss_nil))
      (pss_cons (ps_if (pt_cmpR op_eq (pv 2) (pe_str) (nomark _)) (pss_one (ps_ret (pe_tup (pa_cons (pe_op op_add (pv 5) (pv 7)) (pa_cons (pe_op op_add (pv 6) (pv 8)) (pa_nil)))))) (pss_nil))
      (pss_cons (ps_if (pt_cmpR op_eq (pv 2) (pe_str) (nomark _)) (pss_one (ps_ret (pe_tup (pa_cons (pe_op op_sub (pv 5) (pv 8)) (pa_cons (pe_op op_sub (pv 6) (pv 7)) (pa_nil)))))) (pss_nil))
      (pss_cons (ps_if (pt_cmpR op_eq (pv 2) (pe_str) (nomark _)) (pss_cons (ps_setLc2 (i := 11) (wi1 := iTup K (tTup (tCons (tVar 7) (tCons (tVar 8) (tNil))))) (own := [("one", 3), ("other", 12)]) (vs1 := [12]) (g := (gName 3)) (g1 := (gName 12)) rfl sc_range_of.nd rfl rfl (sw_true rfl rfl rfl (by decide +kernel)) (pi_tup (pe_tup (pa_cons (pv 5) (pa_cons (pv 6) (pa_nil))))) (blkOk_by (own := [("one", 3), ("other", 12)]) (N := nm_range_of) (sc := defScope s_range_of) (by decide +kernel)) (by decide) (fun _ _ _ _ _ => pg_name (i := 3) sc_range_of.nd rfl (Or.inl rfl)) (fun _ _ _ _ _ => pts_nil) (fun _ _ _ _ _ => pi_tup (pe_tup (pa_cons (pv 7) (pa_cons (pv 8) (pa_nil))))) (fun _ _ _ _ _ => pg_name (i := 12) sc_range_of.nd rfl (Or.inl rfl)) (fun _ _ _ _ _ => pts_nil) (fun _ _ _ _ _ => pe_op op_mul (pv 3) (pv 12)))
      (pss_one (ps_ret (pe_tup (pa_cons (pe_callB (cr_min rfl) (by rfl) T.f_min bt_min (pa_cons (pv 11) (pa_nil))) (pa_cons (pe_callB (cr_max rfl) (by rfl) T.f_max bt_max (pa_cons (pv 11) (pa_nil))) (pa_nil))))))) (pss_nil))
      (pss_cons (ps_if (pt_cmpR op_eq (pv 2) (pe_str) (nomark _)) (pss_one (ps_ret (pe_tup (pa_cons (pe_callB (call_min2 rfl) (by rfl) T.f_min bt_min (pa_cons (pv 5) (pa_cons (pv 7) (pa_nil)))) (pa_cons (pe_callB (call_min2 rfl) (by rfl) T.f_min bt_min (pa_cons (pv 6) (pa_cons (pv 8) (pa_nil)))) (pa_nil)))))) (pss_nil))
      (pss_one (ps_ret (pe_tup (pa_cons (pe_callB (call_max2 rfl) (by rfl) T.f_max bt_max (pa_cons (pv 5) (pa_cons (pv 7) (pa_nil)))) (pa_cons (pe_callB (call_max2 rfl) (by rfl) T.f_max bt_max (pa_cons (pv 6) (pa_cons (pv 8) (pa_nil)))) (pa_nil)))))))))))))), ?_⟩
    have hrk0 := hrk
    cases hrk with
    | whole h => rw [hs] at h; cases h; exact absurd rfl (inner_ne hin).1
    | x h => rw [hs] at h; cases h; exact absurd rfl (inner_ne hin).2.1
    | z h => rw [hs] at h; cases h; exact absurd rfl (inner_ne hin).2.2.1
    | noise h => rw [hs] at h; cases h; exact absurd rfl (inner_ne hin).2.2.2
    | over h hj lt d0 d1 =>
      rw [hs] at h; cases h
      rename_i j d
      have hp' : Tp H p [.str "over", .int _, .int _] := hp
      obtain ⟨u, hu1, hu2⟩ := at_r j lt
      walk_at "rd"
      refine kk _ _ _ _ (by walk_at "ex") tp_up fun r hr hk => ?_
      obtain ⟨q, rfl, hq⟩ := over_inv hk hs
      have b := hb q j (by omega) lt hq
      have st := Bnd_step hr
      have e1 := div_bd b.1 d0
      have e2 := div_bd b.2 d0
      have := Bnd_pos q
      exact ⟨⟨by omega, by omega⟩, by omega, by omega⟩
    | bin hx h hj hk lt m =>
      rw [hs] at h; cases h
      rename_i j k x
      have hp' : Tp H p [.str x, .int _, .int _] := hp
      obtain ⟨u, hu1, hu2⟩ := at_r j lt
      obtain ⟨v, hv1, hv2⟩ := at_r k m
      have b1 := hb _ _ (by decide) lt hj
      have b2 := hb _ _ (by decide) m hk
      walk_at "rd"
      rename_i t0 ht0
      generalize hH : upd H t0 _ = H1
      have eH : H1 = upd H t0 (.lst [V.int (k : Nat)]) := hH.symm
      clear hH
      subst eH
      generalize hσ : List.set _ 6 (some (V.int (rs.getD j (0, 0)).2)) = σ
      have eσ : σ = [some (.ref p), some (.ref l), some (.str x), some (.int j), some (.ref t0), some (.int (rs.getD j (0, 0)).1), some (.int (rs.getD j (0, 0)).2), none, none, none, none, none, none] := hσ.symm
      clear hσ
      subst eσ
      cases hx
      · walk_at "rd"
        refine kk _ _ _ _ (by walk_at "ex") tp_up fun r hr hk => ?_
        obtain ⟨q, rfl, hq1, hq2⟩ := bin_inv .plus hk hs
        have b1 := hb q j (by omega) lt hq1
        have b2 := hb q k (by omega) m hq2
        have st := Bnd_step hr
        have := Bnd_pos q
        exact ⟨⟨by omega, by omega⟩, by omega, by omega⟩
      · walk_at "rd"
        refine kk _ _ _ _ (by walk_at "ex") tp_up fun r hr hk => ?_
        obtain ⟨q, rfl, hq1, hq2⟩ := bin_inv .less hk hs
        have b1 := hb q j (by omega) lt hq1
        have b2 := hb q k (by omega) m hq2
        have st := Bnd_step hr
        have := Bnd_pos q
        exact ⟨⟨by omega, by omega⟩, by omega, by omega⟩
      · walk_at "rd"
        rename_i t ht
        generalize hlo1 : (rs.getD j (0, 0)).1 = lo1 at *
        generalize hhi1 : (rs.getD j (0, 0)).2 = hi1 at *
        generalize hlo2 : (rs.getD k (0, 0)).1 = lo2 at *
        generalize hhi2 : (rs.getD k (0, 0)).2 = hi2 at *
        generalize hσ : List.set _ 8 (some (V.int hi2)) = σ
        have eσ : σ = [some (.ref p), some (.ref l), some (.str "times"), some (.int j), some (.ref t0), some (.int lo1), some (.int hi1), some (.int lo2), some (.int hi2), none, none, none, none] := hσ.symm
        clear hσ
        subst eσ
        refine ⟨⟨_, sq_up⟩, ?_⟩
        generalize hHb : upd _ t (.tup [.int lo1, .int hi1]) = Hb
        have eb : Ex H Hb := by rw [← hHb]; walk_at "ex"
        have htb : SqT K Hb t [.int lo1, .int hi1] := by rw [← hHb]; exact sq_up
        intro d hd
        refine lw_tup (K := K) (a := t) (xs := [.int lo1, .int hi1]) (fun i H' => Here (Ex Hb H' ∧ ∃ ns : List Int, H' d = some (.lst (ns.map V.int)) ∧ ns.length = 2 * i ∧ ∀ v ∈ ns, ∃ a b, (a = lo1 ∨ a = hi1) ∧ (b = lo2 ∨ b = hi2) ∧ v = a * b)) (.it ⟨Ex.nw (Ex.rfl' _) hd, [], upd_same, rfl, fun _ z => nomatch z⟩) (fun i H' _ hh => sq_ex hh.get.1 htb) ?_ ?_
        · intro i x H' hx hh
          obtain ⟨he, ns, hns, hnl, hnm⟩ := hh.get
          obtain ⟨a, rfl, ha⟩ : ∃ a, x = .int a ∧ (a = lo1 ∨ a = hi1) := by
            match i, hx with
            | 0, h => exact ⟨lo1, (Option.some.inj h).symm, .inl rfl⟩
            | 1, h => exact ⟨hi1, (Option.some.inj h).symm, .inr rfl⟩
          have hi2' : i < 2 := (List.getElem?_eq_some_iff.mp hx).1
          walk_at "rd"
          rename_i t2 ht2
          refine ⟨⟨_, sq_up⟩, ?_⟩
          have n2 : d ≠ t2 := ne_of_none hns ht2
          refine lw_tup (K := K) (a := t2) (xs := [.int lo2, .int hi2]) (fun i' H'' => Here (Ex Hb H'' ∧ SqT K H'' t2 [.int lo2, .int hi2] ∧ ∃ ns : List Int, H'' d = some (.lst (ns.map V.int)) ∧ ns.length = 2 * i + i' ∧ ∀ v ∈ ns, ∃ a b, (a = lo1 ∨ a = hi1) ∧ (b = lo2 ∨ b = hi2) ∧ v = a * b)) (.it ⟨Ex.nw he ht2, sq_up, ns, by rw [upd_ne n2]; exact hns, hnl, hnm⟩) (fun i' H'' _ hh => hh.get.2.1) ?_ ?_
          · intro i' y H'' hy hh2
            obtain ⟨he2, hq2, ns2, hns2, hnl2, hnm2⟩ := hh2.get
            obtain ⟨b, rfl, hb'⟩ : ∃ b, y = .int b ∧ (b = lo2 ∨ b = hi2) := by
              match i', hy with
              | 0, h => exact ⟨lo2, (Option.some.inj h).symm, .inl rfl⟩
              | 1, h => exact ⟨hi2, (Option.some.inj h).symm, .inr rfl⟩
            have hi3 : i' < 2 := (List.getElem?_eq_some_iff.mp hy).1
            have eB : Bnd 1 = 2 ^ 48 := rfl
            rw [eB] at b1 b2
            walk_at "rd"
            refine ⟨_, hns2, Evl.sz_lt (by rw [List.length_map]; omega), .it ⟨Ex.mu he2 hd, sq_lst hns2 hq2, ns2 ++ [a * b], by rw [List.map_append]; exact upd_same, by simp; omega, ?_⟩⟩
            intro v hv
            rcases List.mem_append.mp hv with h | h
            · exact hnm2 v h
            · exact ⟨a, b, ha, hb', List.mem_singleton.mp h⟩
          · intro H'' hh2
            obtain ⟨he2, hq2, ns2, hns2, hnl2, hnm2⟩ := hh2.get
            exact .it ⟨he2, ns2, hns2, by rw [hnl2]; show 2 * i + 2 = _; omega, hnm2⟩
        · intro H' hh
          obtain ⟨he, ns, hns, hnl, hnm⟩ := hh.get
          have hnl' : ns.length = 4 := hnl
          walk_at "rd"
          refine ⟨d, ns, rfl, Evl.sq_of hns, by omega, fun m1 hm1 _ => ?_⟩
          walk_at "rd"
          refine ⟨d, ns, rfl, Evl.sq_of hns, by omega, fun m2 hm2 _ => ?_⟩
          walk_at "rd"
          refine kk _ _ _ _ (by walk_at "ex") tp_up fun r hr hk => ?_
          obtain ⟨q, rfl, hq1, hq2⟩ := bin_inv .times hk hs
          have b1 := hb q j (by omega) lt hq1
          have b2 := hb q k (by omega) m hq2
          rw [hlo1, hhi1] at b1
          rw [hlo2, hhi2] at b2
          have st := Bnd_step hr
          have key : ∀ v ∈ ns, -Bnd (q + 1) ≤ v ∧ v ≤ Bnd (q + 1) := by
            intro v hv
            obtain ⟨a, b, ha, hb', rfl⟩ := hnm v hv
            rw [← st.2]
            refine mul_bd ?_ ?_
            · rcases ha with e | e <;> rw [e]
              · exact b1.1
              · exact b1.2
            · rcases hb' with e | e <;> rw [e]
              · exact b2.1
              · exact b2.2
          exact ⟨key m1 hm1, key m2 hm2⟩
      · walk_at "rd"
        refine kk _ _ _ _ (by walk_at "ex") tp_up fun r hr hk => ?_
        obtain ⟨q, rfl, hq1, hq2⟩ := bin_inv .least hk hs
        have b1 := hb q j (by omega) lt hq1
        have b2 := hb q k (by omega) m hq2
        have st := Bnd_step hr
        have := Bnd_pos q
        refine ⟨⟨?_, ?_⟩, ?_, ?_⟩ <;> split <;> omega
      · walk_at "rd"
        refine kk _ _ _ _ (by walk_at "ex") tp_up fun r hr hk => ?_
        obtain ⟨q, rfl, hq1, hq2⟩ := bin_inv .most hk hs
        have b1 := hb q j (by omega) lt hq1
        have b2 := hb q k (by omega) m hq2
        have st := Bnd_step hr
        have := Bnd_pos q
        refine ⟨⟨?_, ?_⟩, ?_, ?_⟩ <;> split <;> omega
    | lt4 h hj hk ha hb' lt m n o =>
      rw [hs] at h; cases h
      rename_i j k a b
      have hp' : Tp H p [.str "below", .int _, .int _, .int _, .int _] := hp
      obtain ⟨u, hu1, hu2⟩ := at_r j lt
      obtain ⟨v, hv1, hv2⟩ := at_r k m
      obtain ⟨ua, ha1, ha2⟩ := at_r a n
      obtain ⟨ub, hb1, hb2⟩ := at_r b o
      have fin : ∀ lo hi : Int, (∀ q, q + 1 ≤ 2 → Rk fs q a → Rk fs q b → (-Bnd (q + 1) ≤ lo ∧ lo ≤ Bnd (q + 1)) ∧ -Bnd (q + 1) ≤ hi ∧ hi ≤ Bnd (q + 1)) → InB fs rs.length lo hi := by
        intro lo hi h r hr hk
        obtain ⟨q, rfl, h1, h2⟩ := lt4_inv hk hs
        exact h q hr h1 h2
      walk_at "rd"
      rename_i t0 ht0
      generalize (rs.getD j (0, 0)).1 = lo1 at *
      generalize (rs.getD j (0, 0)).2 = hi1 at *
      generalize (rs.getD k (0, 0)).1 = lo2 at *
      generalize (rs.getD k (0, 0)).2 = hi2 at *
      generalize hσ : List.set _ 10 (some (V.ref ub)) = σ
      have eσ : σ = [some (.ref p), some (.ref l), some (.str "below"), some (.int j), some (.ref t0), some (.int lo1), some (.int hi1), some (.int lo2), some (.int hi2), some (.ref ua), some (.ref ub), none, none] := hσ.symm
      clear hσ
      subst eσ
      walk_at "rs"
      · refine kk ua _ _ _ (by walk_at "ex") (by walk_at "tp") (fin _ _ fun q hq h1 h2 => ?_)
        have b1 := hb q a (by omega) n h1
        have st := Bnd_step hq
        have := Bnd_pos q
        exact ⟨⟨by omega, by omega⟩, by omega, by omega⟩
      · refine kk ub _ _ _ (by walk_at "ex") (by walk_at "tp") (fin _ _ fun q hq h1 h2 => ?_)
        have b1 := hb q b (by omega) o h2
        have st := Bnd_step hq
        have := Bnd_pos q
        exact ⟨⟨by omega, by omega⟩, by omega, by omega⟩
      · refine kk _ _ _ _ (by walk_at "ex") tp_up (fin _ _ fun q hq h1 h2 => ?_)
        have b1 := hb q a (by omega) n h1
        have b2 := hb q b (by omega) o h2
        have st := Bnd_step hq
        have := Bnd_pos q
        refine ⟨⟨?_, ?_⟩, ?_, ?_⟩ <;> split <;> omega

end Kw
set_option Elab.async false
set_option linter.all false
set_option maxRecDepth 100000
set_option maxHeartbeats 2000000
namespace Kw
open PySem PySem.Spec PyProof.Rows L2
local macro_rules | `(tactic| walk_at "tp") => `(tactic| repeat (first | assumption | exact tp_up | refine tp_new (by assumption) ?_ | refine tp_lst (by assumption) ?_ | refine tp_ex (by assumption) ?_ | refine tp_mv (by assumption) ?_))
local macro_rules | `(tactic| walk_at "sq") => `(tactic| repeat (first | assumption | exact sq_up | exact sl_up | exact tp_sq (by assumption) | exact Evl.sq_of (by assumption) | refine sq_new (by assumption) ?_ | refine sl_new (by assumption) ?_ | refine sq_lst (by assumption) ?_ | refine sq_ex (by assumption) ?_ | refine sl_ex (by assumption) ?_ | refine sq_mv (by assumption) ?_))
local macro_rules | `(tactic| walk_at "ex") => `(tactic| repeat (first | assumption | exact Ex.rfl' _ | refine Ex.nw ?_ (by assumption) | refine Ex.tr ?_ (by assumption)))
local macro_rules | `(tactic| walk_at "cond") => `(tactic| first | decide | exact Or.inl ⟨by omega, by omega⟩ | exact Or.inr ⟨by omega, by omega⟩ | exact ⟨by omega, by omega⟩ | omega)
local macro_rules | `(tactic| walk_at "rd1") => `(tactic| first
  | refine ⟨_, rfl, ?_⟩
  | refine ⟨_, _, rfl, rfl, ?_⟩
  | refine ⟨_, _, rfl, ?_⟩
  | refine ⟨rfl, ?_⟩
  | refine ⟨_, _, _, rfl, ?_⟩
  | (refine' ⟨_, _, _, _, rfl, rfl, ?h, ?ha, ?q⟩; (case h => walk_at "sq"); (case ha => first | rfl | exact at_c0 _ _ | (refine at_vals ?_; omega) | exact atI_nat (by assumption)))
  | refine ⟨_, _, _, _, rfl, ?_⟩
  | refine ⟨_, _, _, _, _, rfl, ?_⟩
  | (refine' ⟨_, _, rfl, ?h, ?ha, ?q⟩; (case h => walk_at "sq"); (case ha => first | rfl | exact Nat.le_of_ble_eq_true rfl))
  | refine Or.inr ⟨_, rfl, ?_⟩
  | (refine' ⟨_, _, rfl, Or.inr ?h, ?q⟩; (case h => walk_at "sq"))
  | (refine' ⟨_, _, rfl, Or.inl ?h, ?q⟩; (case h => walk_at "sq"))
  | refine ⟨_, _, _, _, _, rfl, .ty _, .base (.int _), kit_ty kit_ii, ?_⟩
  | refine ⟨_, _, _, _, _, rfl, .ty _, .base (.int _), kit_ty kit_ib, ?_⟩
  | refine ⟨_, _, _, _, _, rfl, .ty _, .base (.str _), kit_ty kit_ss, ?_⟩
  | refine ⟨_, _, _, _, _, rfl, .ty _, .base (.tup (by assumption)), kit_ty kit_tt, ?_⟩
  | with_reducible refine iteT ?_
  | with_reducible refine iteF ?_
  | refine ite_yes (by first | decide | omega) ?_
  | refine ite_no (by first | decide | omega) ?_
  | refine ite_no (fun z => absurd (V.str.inj z) (by assumption)) ?_
  | refine ite_no (fun z => absurd (V.int.inj z) (by omega)) ?_
  | refine ite_yes (congrArg V.int (by omega)) ?_
  | refine ite_nyes (by first | decide | omega) ?_
  | refine ite_nno (by first | decide | omega) ?_
  | (refine' And.intro (Or.inl ⟨rfl, _, ?h⟩) ?q; (case h => first | exact SqL.of (by first | assumption | exact upd_same) | walk_at "sq"))
  | (refine' And.intro ?h ?q; (case h => exact Evl.sz_of (Nat.le_of_ble_eq_true rfl)))
  | refine fun p (hp : (_ : Hp) p = none) => ?_
  | (refine' ⟨_, _, rfl, Or.inr ?h, rfl, rfl, ?q⟩; (case h => walk_at "sq"))
  | (refine' ⟨_, _, rfl, Or.inl ?h, rfl, rfl, ?q⟩; (case h => walk_at "sq"))
  | (refine' And.intro ?h ?q; (case h => walk_at "cond")))
local macro_rules | `(tactic| walk_at "rd") => `(tactic| repeat walk_at "rd1")
local macro_rules | `(tactic| walk_at "rs") => `(tactic| repeat' (first | walk_at "rd1" | refine ite2d (fun h => ?_) (fun h => ?_) | refine ite2n (fun h => ?_) (fun h => ?_) | refine ite2 (fun h => ?_) (fun h => ?_)))
local macro_rules | `(tactic| walk_at "pu") => `(tactic| repeat (first | assumption | refine purse_new ?_ (by assumption)))
local macro_rules | `(tactic| walk_at "mv") => `(tactic| repeat (first | assumption | exact Mv.rf _ _ | refine Mv.nw ?_ (by assumption) | refine Mv.tr ?_ (by assumption)))

variable {P : Program} {w : World} {K : PySem.W.Frag} {mg : Str → Option Value} {base : Heap} {D : Ad}
/-! ### ranges_of, must_rules -/
theorem rgl_snoc {H H' : Hp} {us : List V} {rs : List (Int × Int)} {t : Addr} {lo hi : Int} (e : Tst H H') (h : Paired (fun u (r : Int × Int) => ∃ p, u = V.ref p ∧ Tp H p [.int r.1, .int r.2]) us rs) (ht : Tp H' t [.int lo, .int hi]) : Paired (fun u (r : Int × Int) => ∃ p, u = V.ref p ∧ Tp H' p [.int r.1, .int r.2]) (us ++ [.ref t]) (rs ++ [(lo, hi)]) := by
  refine pair_snoc ?_ ⟨t, rfl, ht⟩
  induction h with
  | nil => exact .nil
  | cons a _ ih => obtain ⟨p, h1, h2⟩ := a; exact .cons ⟨p, h1, e _ _ h2⟩ ih
theorem Rbk.snoc {fs : List Stp} {rs : List (Int × Int)} {lo hi : Int} (hb : Rbk fs rs) (h : InB fs rs.length lo hi) : Rbk fs (rs ++ [(lo, hi)]) := by
  intro r j hr hj hk
  by_cases c : j < rs.length
  · have e : (rs ++ [(lo, hi)]).getD j (0, 0) = rs.getD j (0, 0) := by
      rw [List.getD_eq_getElem?_getD, List.getElem?_append_left c, ← List.getD_eq_getElem?_getD]
    rw [e]; exact hb r j hr c hk
  · have e : j = rs.length := by simp at hj; omega
    subst e
    have e : (rs ++ [(lo, hi)]).getD rs.length (0, 0) = (lo, hi) := by simp
    rw [e]; exact h r hr hk
theorem inb_small {fs : List Stp} {i : Nat} {lo hi : Int} (h0 : -16777216 ≤ lo ∧ lo ≤ 16777216) (h1 : -16777216 ≤ hi ∧ hi ≤ 16777216) : InB fs i lo hi := fun r _ _ => by
  have := Bnd_pos r
  omega
def spRangesOf (K : PySem.W.Frag) : Sp := fun vs H Q _ => ∃ (l q : Addr) (fs : List Stp) (seed : Int), vs = [.ref l, .int seed, .ref q] ∧ StL H l fs ∧ CodeOk fs ∧ SqT K H q [.int (-1000000), .int (-1000000), .int 1000000, .int 1000000] ∧ ∀ t H' rs, Ex H H' → RgL H' t rs → Rbk fs rs → rs.length = fs.length → Q (.ref t) H'
theorem h_ranges_of (F : DefAt K mg "ranges_of" s_ranges_of [] []) (T : Txt K w mg D) (G_noise_range : Has P w K mg base 1 "noise_range" (spNRange K) []) (G_range_of : Has P w K mg base 1 "range_of" spRangeOf []) : Has P w K mg base 2 "ranges_of" (spRangesOf K) [] := by
  refine has_of F sc_ranges_of (fun _ _ _ _ _ _ us hl => match us, hl with | [_, _, _], _ => rfl) ?_ ?_
  · rintro _ _ _ _ ⟨_, _, _, _, rfl, _⟩; rfl
  · rintro f cdv A outer s0 H vs Q E hr ⟨l, q, fs, seed, rfl, ⟨us, hl, hus⟩, ⟨hall, hlen0, hlen⟩, hq, kk⟩
    refine ⟨_, pss_cons (ps_asg (pv 2) (pg_tup rfl (pgs_cons (pg_name (i := 3) sc_ranges_of.nd rfl (Or.inl rfl)) (pgs_cons (pg_name (i := 4) sc_ranges_of.nd rfl (Or.inl rfl)) (pgs_cons (pg_name (i := 5) sc_ranges_of.nd rfl (Or.inl rfl)) (pgs_cons (pg_name (i := 6) sc_ranges_of.nd rfl (Or.inl rfl)) (pgs_nil)))))))
      (pss_cons (ps_set (i := 7) sc_ranges_of.nd rfl (Or.inl rfl) (pe_lst (pa_nil)))
      (pss_cons (ps_for PassesOwn.never rfl (pi_list (pv 0)) (pg_name (i := 8) sc_ranges_of.nd rfl (Or.inl rfl)) (pss_cons (ps_set (i := 9) sc_ranges_of.nd rfl (Or.inl rfl) (pe_ix ix_tup (pv 8) (pe_int) (fun _ _ => rfl)))
      (pss_one (ps_if (pt_cmpR op_eq (pv 9) (pe_str) (nomark _)) (pss_one (ps_expr (pe_bm PySem.F.plainAttrs_list PySem.F.slot_list_append PySem.F.type_list_append mt_append (pv 7) (pa_cons (pe_tup (pa_cons (pe_ix ix_tup (pv 8) (pe_int) (fun _ _ => rfl)) (pa_cons (pe_ix ix_tup (pv 8) (pe_int) (fun _ _ => rfl)) (pa_nil)))) (pa_nil))))) (pss_one (ps_if (pt_cmpR op_eq (pv 9) (pe_str) (nomark _)) (pss_one (ps_expr (pe_bm PySem.F.plainAttrs_list PySem.F.slot_list_append PySem.F.type_list_append mt_append (pv 7) (pa_cons (pe_tup (pa_cons (pe_op op_add (pv 3) (pe_ix ix_tup (pv 8) (pe_int) (fun _ _ => rfl))) (pa_cons (pe_op op_add (pv 5) (pe_ix ix_tup (pv 8) (pe_int) (fun _ _ => rfl))) (pa_nil)))) (pa_nil))))) (pss_one (ps_if (pt_cmpR op_eq (pv 9) (pe_str) (nomark _)) (pss_one (ps_expr (pe_bm PySem.F.plainAttrs_list PySem.F.slot_list_append PySem.F.type_list_append mt_append (pv 7) (pa_cons (pe_tup (pa_cons (pe_op op_add (pv 4) (pe_ix ix_tup (pv 8) (pe_int) (fun _ _ => rfl))) (pa_cons (pe_op op_add (pv 6) (pe_ix ix_tup (pv 8) (pe_int) (fun _ _ => rfl))) (pa_nil)))) (pa_nil))))) (pss_one (ps_if (pt_cmpR op_eq (pv 9) (pe_str) (nomark _)) (pss_one (ps_expr (pe_bm PySem.F.plainAttrs_list PySem.F.slot_list_append PySem.F.type_list_append mt_append (pv 7) (pa_cons (pe_c G_noise_range (hr.mono (by decide)) (by rfl) (pa_cons (pv 1) (pa_cons (pv 8) (pa_cons (pv 2) (pa_nil))))) (pa_nil))))) (pss_one (ps_expr (pe_bm PySem.F.plainAttrs_list PySem.F.slot_list_append PySem.F.type_list_append mt_append (pv 7) (pa_cons (pe_c G_range_of (hr.mono (by decide)) (by rfl) (pa_cons (pv 8) (pa_cons (pv 7) (pa_nil)))) (pa_nil)))))))))))))))
      (pss_one (ps_ret (pv 7))))), ?_⟩
    have hul := pair_len hus
    walk_at "rd"
    rename_i d hd
    refine ⟨⟨us, sl_new hd (Evl.sq_of hl)⟩, ?_⟩
    refine for_list (K := K) (a := l) (xs := us) (fun i σ H' => Here (Ex H H' ∧ ∃ rs, RgL H' d rs ∧ rs.length = i ∧ Rbk fs rs ∧ ∃ r0 r1, σ = [some (.ref l), some (.int seed), some (.ref q), some (.int (-1000000)), some (.int (-1000000)), some (.int 1000000), some (.int 1000000), some (.ref d), r0, r1])) ?_ (fun i σ H' _ hh => sl_ex hh.get.1 (Evl.sq_of hl)) ?_ ?_
    · exact .it ⟨by walk_at "ex", [], ⟨[], upd_same, .nil⟩, rfl, fun r j _ h => absurd h (Nat.not_lt_zero j), _, _, rfl⟩
    · intro i u σ H' hu hh
      obtain ⟨he, rs, ⟨vs, hd1, hvs⟩, hrl, hbk, r0, r1, rfl⟩ := hh.get
      obtain ⟨s, hs, p, rfl, hp⟩ := pair_get hus hu
      have hi : i < fs.length := (List.getElem?_eq_some_iff.mp hs).1
      have hp' : Tp H' p s.its := tp_ex he hp
      have hvl := pair_len hvs
      have hrk := hall i hi
      have hq' := sq_ex he hq
      have hz : vs.length < sizeLine := Evl.sz_lt (by omega)
      have fin : ∀ (H2 : Hp) (t : Addr) (lo hi : Int), Ex H' H2 → Tp H2 t [.int lo, .int hi] → InB fs rs.length lo hi → ∀ w1, Here (Ex H (upd H2 d (.lst (vs ++ [.ref t]))) ∧ ∃ rs, RgL (upd H2 d (.lst (vs ++ [.ref t]))) d rs ∧ rs.length = i + 1 ∧ Rbk fs rs ∧ ∃ r0 r1, [some (V.ref l), some (.int seed), some (.ref q), some (.int (-1000000)), some (.int (-1000000)), some (.int 1000000), some (.int 1000000), some (.ref d), some (.ref p), some w1] = [some (.ref l), some (.int seed), some (.ref q), some (.int (-1000000)), some (.int (-1000000)), some (.int 1000000), some (.int 1000000), some (.ref d), r0, r1]) := by
        intro H2 t lo hi e2 ht hb w1
        have hd2 := e2 _ _ hd1
        refine .it ⟨Ex.mu (he.tr e2) hd, rs ++ [(lo, hi)], ⟨_, upd_same, rgl_snoc (fun a xs h => tp_lst hd2 (tp_ex e2 h)) hvs (tp_lst hd2 ht)⟩, by simp; omega, hbk.snoc hb, _, _, rfl⟩
      by_cases hin : Inner s.w
      · obtain ⟨n1, n2, n3, n4⟩ := inner_ne hin
        have hp2 : Tp H' p (.str s.w :: s.ns.map V.int) := hp'
        walk_at "rd"
        refine ⟨p, d, s, fs, rs, rfl, hp', ⟨vs, hd1, hvs⟩, hin, by rw [hrl]; exact hs, by rw [hrl]; exact hrk, hbk, fun t H2 lo hi e2 ht hb => ?_⟩
        refine ⟨d, _, _, rfl, rfl, e2 _ _ hd1, hz, ?_⟩
        exact fin H2 t lo hi e2 ht hb _
      cases hrk with
      | whole h k0 k1 =>
        rw [hs] at h; cases h
        have hp2 : Tp H' p [.str "whole", .int _] := hp'
        walk_at "rd"
        rename_i t ht
        refine ⟨d, _, _, rfl, rfl, (Ex.nw (Ex.rfl' H') ht) _ _ hd1, hz, ?_⟩
        exact fin _ t _ _ (Ex.nw (Ex.rfl' H') ht) tp_up (inb_small (by omega) (by omega)) _
      | x h d0 d1 =>
        rw [hs] at h; cases h
        have hp2 : Tp H' p [.str "x", .int _] := hp'
        walk_at "rd"
        rename_i t ht
        refine ⟨d, _, _, rfl, rfl, (Ex.nw (Ex.rfl' H') ht) _ _ hd1, hz, ?_⟩
        exact fin _ t _ _ (Ex.nw (Ex.rfl' H') ht) tp_up (inb_small (by omega) (by omega)) _
      | z h d0 d1 =>
        rw [hs] at h; cases h
        have hp2 : Tp H' p [.str "z", .int _] := hp'
        walk_at "rd"
        rename_i t ht
        refine ⟨d, _, _, rfl, rfl, (Ex.nw (Ex.rfl' H') ht) _ _ hd1, hz, ?_⟩
        exact fin _ t _ _ (Ex.nw (Ex.rfl' H') ht) tp_up (inb_small (by omega) (by omega)) _
      | noise h a0 a1 b0 b1 c0 c1 d0 d1 =>
        rw [hs] at h; cases h
        have hp2 : Tp H' p [.str "noise", .int _, .int _, .int _, .int _] := hp'
        walk_at "rd"
        refine ⟨p, q, seed, _, _, _, _, rfl, hp2, b0, b1, c0, c1, d0, d1, hq', fun t H2 e2 ht => ?_⟩
        refine ⟨d, _, _, rfl, rfl, e2 _ _ hd1, hz, ?_⟩
        exact fin H2 t _ _ e2 ht (inb_small (by omega) (by omega)) _
      | over h => rw [hs] at h; cases h; exact absurd .over hin
      | bin hx h => rw [hs] at h; cases h; exact absurd (.bin hx) hin
      | lt4 h => rw [hs] at h; cases h; exact absurd .lt4 hin
    · intro σ H' hh
      obtain ⟨he, rs, hrg, hrl, hbk, r0, r1, rfl⟩ := hh.get
      walk_at "rd"
      exact kk d H' rs he hrg hbk (by omega)
def spRules0 : Sp := fun vs H Q _ => ∃ v, vs = [v] ∧ FdP H 2 v ∧ ∀ H', Ex H H' → Q .non H'
theorem h_must_rules (F : DefAt K mg "must_rules" s_must_rules [] []) (T : Txt K w mg D) (G_must_field : Has P w K mg base 10 "must_field" (spField 2) []) (G_size_of : Has P w K mg base 4 "size_of" (spSize 2) []) (G_steps_in : Has P w K mg base 5 "steps_in" spStepsIn []) (G_ranges_of : Has P w K mg base 2 "ranges_of" (spRangesOf K) []) :
    Has P w K mg base 11 "must_rules" spRules0 [] := by
  refine has_of F sc_must_rules (fun _ _ _ _ _ _ us hl => match us, hl with | [_], _ => rfl) ?_ ?_
  · rintro _ _ _ _ ⟨_, rfl, _⟩; rfl
  · rintro f cdv A outer s0 H vs Q E hr ⟨v, rfl, hv, kk⟩
    refine ⟨_, pss_cons (ps_expr (pe_c G_must_field (hr.mono (by decide)) (by rfl) (pa_cons (pv 0) (pa_cons (pe_tup (pa_nil)) (pa_cons (pe_dnewT) (pa_nil))))))
      (pss_cons (ps_if (pt_cmpR op_gt (pe_c G_size_of (hr.mono (by decide)) (by rfl) (pa_cons (pv 0) (pa_cons (pe_dnewT) (pa_nil)))) (pe_gi T.MOST_FIELDS (by rfl)) (nomark _)) (pss_never) (pss_nil))
      (pss_one (ps_for PassesOwn.never rfl (pi_list (pe_c G_ranges_of (hr.mono (by decide)) (by rfl) (pa_cons (pe_c G_steps_in (hr.mono (by decide)) (by rfl) (pa_cons (pv 0) (pa_nil))) (pa_cons (pe_int) (pa_cons (pe_gr T.WHOLE_LAND (by rfl)) (pa_nil)))))) (pg_tup rfl (pgs_cons (pg_name (i := 1) sc_must_rules.nd rfl (Or.inl rfl)) (pgs_cons (pg_name (i := 2) sc_must_rules.nd rfl (Or.inl rfl)) (pgs_nil)))) (pss_one (ps_if (PW.pt (pw_or (pt_cmpR op_lt (pv 1) (pe_un un_neg (pe_gi T.GREAT (by rfl))) (nomark _)) (pw_or1 (pt_cmpR op_gt (pv 2) (pe_gi T.GREAT (by rfl)) (nomark _))))) (pss_never) (pss_nil)))))), ?_⟩
    walk_at "rd"
    rename_i p0 hp0 n0 hn0
    have e0 : Ex H (upd (upd H p0 (.tup [])) n0 (.dT [])) := by walk_at "ex"
    refine ⟨v, .ref n0, p0, [], rfl, hv.mono (.ex e0), tp_new hn0 tp_up, by decide, by decide, fun H1 e1 => ?_⟩
    walk_at "rd"
    rename_i m0 hm0
    have e2 : Ex H (upd H1 m0 (.dT [])) := (e0.tr e1).nw hm0
    refine ⟨hv.mono (.ex e2), by decide, fun k H2 e3 k0 k1 => ?_⟩
    have k1' : k ≤ 21 := k1
    walk_at "rd"
    have e4 : Ex H H2 := e2.tr e3
    refine ⟨hv.mono (.ex e4), fun l fs H3 e5 hl0 hst hall hf0 hf1 => ?_⟩
    walk_at "rd"
    refine ⟨l, D.W, fs, 0, rfl, hst, ⟨hall, hf0, hf1⟩, T.qW _, fun t H4 rs e6 hrg hbk hrl => ?_⟩
    obtain ⟨us, ht, hus⟩ := hrg
    have hul := pair_len hus
    walk_at "rd"
    refine ⟨⟨us, Evl.sq_of ht⟩, ?_⟩
    refine for_list (K := K) (a := t) (xs := us) (fun i σ H' => Here (H' = H4 ∧ ∃ r0 r1, σ = [some v, r0, r1])) (.it ⟨rfl, _, _, rfl⟩) (fun i σ H' _ hh => by rw [hh.get.1]; exact Evl.sq_of ht) ?_ ?_
    · intro i u σ H' hu hh
      obtain ⟨rfl, r0, r1, rfl⟩ := hh.get
      obtain ⟨r, hr', p, rfl, hp⟩ := pair_get hus hu
      have hi : i < rs.length := (List.getElem?_eq_some_iff.mp hr').1
      have hb := hbk 2 i (by decide) hi (hall i (by omega))
      have er : rs.getD i (0, 0) = r := by rw [List.getD_eq_getElem?_getD, hr']; rfl
      rw [er] at hb
      have eB : Bnd 2 = 2 ^ 96 := rfl
      rw [eB] at hb
      walk_at "rd"
      exact .it ⟨rfl, _, _, rfl⟩
    · intro σ H' hh
      obtain ⟨rfl, _⟩ := hh.get
      walk_at "rd"
      exact kk _ ((e4.tr e5).tr e6)
/-! ### drawn rules -/
def drB : Nat → Nat
  | 0 => 5
  | n + 1 => 5 + 4 * drB n
theorem drB_ge : ∀ n, 5 ≤ drB n
  | 0 => Nat.le_refl _
  | n + 1 => by show 5 ≤ 5 + 4 * drB n; omega
def spDrawn (n : Nat) : Sp := fun vs H Q _ => ∃ (p : Addr) (k : Nat), vs = [.ref p, .int n] ∧ PurseAt H p k ∧ k + drB n < 2 ^ 50 ∧ ∀ (v : V) (H' : Hp), PurseAt H' p (k + drB n) → Mv p H H' → FdP H' n v → Q v H'
theorem b_law_rules (n k : Nat) (hn : n ≤ 2) (T : Txt K w mg D) (F : DefAt K mg "_law_rules" s__law_rules [] []) (G_law_draw : Has P w K mg base 2 "_law_draw" spDraw []) {spF : Sp} (hs : ∀ m, n = m + 1 → ∀ vs H Q E, spDrawn m vs H Q E → spF vs H Q E)
    (G_law_rules : Has P w K mg base (k + 2) "_law_rules" spF []) : Has P w K mg base (k + 3) "_law_rules" (spDrawn n) [] := by
  refine has_of F sc__law_rules (fun _ _ _ _ _ _ us hl => match us, hl with | [_, _], _ => rfl) ?_ ?_
  · rintro _ _ _ _ ⟨_, _, rfl, _⟩; rfl
  · rintro f cdv A outer s0 H vs Q E hr ⟨p, c, rfl, hp, hc, kk⟩
    refine ⟨_, pss_cons (ps_set (i := 2) sc__law_rules.nd rfl (Or.inl rfl) (pe_c G_law_draw (hr.mono (by omega)) (by rfl) (pa_cons (pv 0) (pa_cons (pe_int) (pa_nil)))))
      (pss_cons (ps_if (PW.pt (pw_or (pt_cmpR op_eq (pv 1) (pe_int) (nomark _)) (pw_or1 (pt_cmpR op_lt (pv 2) (pe_int) (nomark _))))) (pss_cons (ps_set (i := 3) sc__law_rules.nd rfl (Or.inl rfl) (pe_lst (pa_cons (pe_tup (pa_cons (pe_str) (pa_cons (pe_c G_law_draw (hr.mono (by omega)) (by rfl) (pa_cons (pv 0) (pa_cons (pe_int) (pa_nil)))) (pa_cons (pe_c G_law_draw (hr.mono (by omega)) (by rfl) (pa_cons (pv 0) (pa_cons (pe_int) (pa_nil)))) (pa_nil))))) (pa_cons (pe_tup (pa_cons (pe_str) (pa_nil))) (pa_cons (pe_tup (pa_cons (pe_str) (pa_nil))) (pa_nil))))))
      (pss_one (ps_ret (pe_ix ix_list (pe_op op_cat (pv 3) (pe_lst (pa_cons (pe_tup (pa_cons (pe_str) (pa_cons (pe_op op_sub (pe_c G_law_draw (hr.mono (by omega)) (by rfl) (pa_cons (pv 0) (pa_cons (pe_int) (pa_nil)))) (pe_int)) (pa_nil)))) (pa_cons (pe_ix ix_list (pv 3) (pe_int) (fun _ _ => rfl)) (pa_cons (pe_ix ix_list (pv 3) (pe_int) (fun _ _ => rfl)) (pa_nil)))))) (pe_c G_law_draw (hr.mono (by omega)) (by rfl) (pa_cons (pv 0) (pa_cons (pe_int) (pa_nil)))) (fun _ _ => rfl))))) (pss_nil))
      (pss_cons (ps_set (i := 4) sc__law_rules.nd rfl (Or.inl rfl) (pe_c G_law_rules (hr.mono (by omega)) (by rfl) (pa_cons (pv 0) (pa_cons (pe_op op_sub (pv 1) (pe_int)) (pa_nil)))))
      (pss_cons (ps_if (pt_cmpR op_eq (pv 2) (pe_int) (nomark _)) (pss_one (ps_ret (pe_tup (pa_cons (pe_str) (pa_cons (pv 4) (pa_cons (pe_op op_add (pe_int) (pe_c G_law_draw (hr.mono (by omega)) (by rfl) (pa_cons (pv 0) (pa_cons (pe_int) (pa_nil))))) (pa_nil))))))) (pss_nil))
      (pss_cons (ps_if (pt_cmpR op_eq (pv 2) (pe_int) (nomark _)) (pss_one (ps_ret (pe_tup (pa_cons (pe_str) (pa_cons (pe_op op_sub (pe_c G_law_draw (hr.mono (by omega)) (by rfl) (pa_cons (pv 0) (pa_cons (pe_int) (pa_nil)))) (pe_int)) (pa_cons (pe_op op_sub (pe_c G_law_draw (hr.mono (by omega)) (by rfl) (pa_cons (pv 0) (pa_cons (pe_int) (pa_nil)))) (pe_int)) (pa_cons (pv 4) (pa_nil)))))))) (pss_nil))
      (pss_cons (ps_set (i := 5) sc__law_rules.nd rfl (Or.inl rfl) (pe_c G_law_rules (hr.mono (by omega)) (by rfl) (pa_cons (pv 0) (pa_cons (pe_op op_sub (pv 1) (pe_int)) (pa_nil)))))
      (pss_cons (ps_if (pt_cmpR op_eq (pv 2) (pe_int) (nomark _)) (pss_one (ps_ret (pe_tup (pa_cons (pe_str) (pa_cons (pv 4) (pa_cons (pv 5) (pa_cons (pe_c G_law_rules (hr.mono (by omega)) (by rfl) (pa_cons (pv 0) (pa_cons (pe_op op_sub (pv 1) (pe_int)) (pa_nil)))) (pa_cons (pe_c G_law_rules (hr.mono (by omega)) (by rfl) (pa_cons (pv 0) (pa_cons (pe_op op_sub (pv 1) (pe_int)) (pa_nil)))) (pa_nil))))))))) (pss_nil))
      (pss_one (ps_ret (pe_tup (pa_cons (pe_ix ix_list (pe_lst (pa_cons (pe_str) (pa_cons (pe_str) (pa_cons (pe_str) (pa_cons (pe_str) (pa_cons (pe_str) (pa_cons (pe_str) (pa_nil)))))))) (pe_c G_law_draw (hr.mono (by omega)) (by rfl) (pa_cons (pv 0) (pa_cons (pe_int) (pa_nil)))) (fun _ _ => rfl)) (pa_cons (pv 4) (pa_cons (pv 5) (pa_nil))))))))))))), ?_⟩
    walk_at "rd"
    refine ⟨p, 12, c, rfl, hp, by omega, by omega, by omega, fun way H1 w0 w1 hp1 hm1 => ?_⟩
    walk_at "rd"
    cases n with
    | zero =>
      refine ite_yes rfl ?_
      walk_at "rd"
      refine ⟨p, 9, c + 1, rfl, hp1, by omega, by omega, by omega, fun a H2 a0 a1 hp2 hm2 => ?_⟩
      walk_at "rd"
      refine ⟨p, 4, c + 2, rfl, hp2, by omega, by omega, by omega, fun b H3 b0 b1 hp3 hm3 => ?_⟩
      walk_at "rd"
      rename_i tn htn tx htx tz htz l hl
      have pl := purse_ne (purse_new (purse_new (purse_new hp3 htn) htx) htz) hl
      refine ⟨p, 21, c + 3, rfl, by walk_at "pu", by omega, by omega, by omega, fun r H4 r0 r1 hp4 hm4 => ?_⟩
      have el := hm4 l _ upd_same fun e => absurd e pl
      have kn : Tp H4 tn [.str "noise", .int a, .int b] := tp_mv hm4 (tp_new hl (tp_new htz (tp_new htx tp_up)))
      have kx : Tp H4 tx [.str "x"] := tp_mv hm4 (tp_new hl (tp_new htz tp_up))
      have kz : Tp H4 tz [.str "z"] := tp_mv hm4 (tp_new hl tp_up)
      have m4 : Mv p H H4 := by walk_at "mv"
      walk_at "rd"
      rename_i tw htw l2 hl2
      have el1 : (upd (upd H4 tw (.tup [.str "whole", .int (r - 10)])) l2 (.lst [.ref tw, .ref tn, .ref tn])) l = some (.lst [.ref tn, .ref tx, .ref tz]) := (Ex.nw (Ex.nw (Ex.rfl' H4) htw) hl2) _ _ el
      refine ⟨l, l2, _, _, rfl, rfl, el1, upd_same, Evl.sz_of (Nat.le_of_ble_eq_true rfl), fun l3 hl3 => ?_⟩
      walk_at "rd"
      refine ⟨p, 6, c + 4, rfl, by walk_at "pu", by omega, by omega, by omega, fun q H5 q0 q1 hp5 hm5 => ?_⟩
      have pl3 := purse_ne (purse_new (purse_new hp4 htw) hl2) hl3
      have el3 : H5 l3 = some (.lst ([.ref tn, .ref tx, .ref tz] ++ [.ref tw, .ref tn, .ref tn])) := hm5 l3 _ upd_same fun e => absurd e pl3
      have kw : Tp H5 tw [.str "whole", .int (r - 10)] := tp_mv hm5 (tp_new hl3 (tp_new hl2 tp_up))
      have kn5 : Tp H5 tn [.str "noise", .int a, .int b] := tp_mv hm5 (tp_new hl3 (tp_new hl2 (tp_new htw kn)))
      have kx5 : Tp H5 tx [.str "x"] := tp_mv hm5 (tp_new hl3 (tp_new hl2 (tp_new htw kx)))
      have kz5 : Tp H5 tz [.str "z"] := tp_mv hm5 (tp_new hl3 (tp_new hl2 (tp_new htw kz)))
      have m5 : Mv p H H5 := (((m4.nw htw).nw hl2).nw hl3).tr hm5
      obtain ⟨v, hv, ev⟩ : ∃ v, FdP H5 0 v ∧ atI ([.ref tn, .ref tx, .ref tz] ++ [.ref tw, .ref tn, .ref tn] : List V) q = some v := by
        have : q = 0 ∨ q = 1 ∨ q = 2 ∨ q = 3 ∨ q = 4 ∨ q = 5 := by omega
        rcases this with rfl | rfl | rfl | rfl | rfl | rfl
        · exact ⟨_, .noise kn5 a0 (by omega) b0 (by omega), rfl⟩
        · exact ⟨_, .x kx5, rfl⟩
        · exact ⟨_, .z kz5, rfl⟩
        · exact ⟨_, .whole kw (by omega) (by omega), rfl⟩
        · exact ⟨_, .noise kn5 a0 (by omega) b0 (by omega), rfl⟩
        · exact ⟨_, .noise kn5 a0 (by omega) b0 (by omega), rfl⟩
      refine ⟨l3, _, q, v, rfl, rfl, Evl.sq_of el3, ev, ?_⟩
      exact kk v H5 (purse_mono hp5 (by show c + 5 ≤ c + drB 0; have := drB_ge 0; omega)) m5 hv
    | succ m =>
      refine ite_no (fun z => by injection z with z; omega) ?_
      by_cases hw : way < 3
      · walk_at "rd"
        refine ⟨p, 9, c + 1, rfl, hp1, by omega, by omega, by omega, fun a H2 a0 a1 hp2 hm2 => ?_⟩
        walk_at "rd"
        refine ⟨p, 4, c + 2, rfl, hp2, by omega, by omega, by omega, fun b H3 b0 b1 hp3 hm3 => ?_⟩
        walk_at "rd"
        rename_i tn htn tx htx tz htz l hl
        have pl := purse_ne (purse_new (purse_new (purse_new hp3 htn) htx) htz) hl
        refine ⟨p, 21, c + 3, rfl, by walk_at "pu", by omega, by omega, by omega, fun r H4 r0 r1 hp4 hm4 => ?_⟩
        have el := hm4 l _ upd_same fun e => absurd e pl
        have kn : Tp H4 tn [.str "noise", .int a, .int b] := tp_mv hm4 (tp_new hl (tp_new htz (tp_new htx tp_up)))
        have kx : Tp H4 tx [.str "x"] := tp_mv hm4 (tp_new hl (tp_new htz tp_up))
        have kz : Tp H4 tz [.str "z"] := tp_mv hm4 (tp_new hl tp_up)
        have m4 : Mv p H H4 := by walk_at "mv"
        walk_at "rd"
        rename_i tw htw l2 hl2
        have el1 : (upd (upd H4 tw (.tup [.str "whole", .int (r - 10)])) l2 (.lst [.ref tw, .ref tn, .ref tn])) l = some (.lst [.ref tn, .ref tx, .ref tz]) := (Ex.nw (Ex.nw (Ex.rfl' H4) htw) hl2) _ _ el
        refine ⟨l, l2, _, _, rfl, rfl, el1, upd_same, Evl.sz_of (Nat.le_of_ble_eq_true rfl), fun l3 hl3 => ?_⟩
        walk_at "rd"
        refine ⟨p, 6, c + 4, rfl, by walk_at "pu", by omega, by omega, by omega, fun q H5 q0 q1 hp5 hm5 => ?_⟩
        have pl3 := purse_ne (purse_new (purse_new hp4 htw) hl2) hl3
        have el3 : H5 l3 = some (.lst ([.ref tn, .ref tx, .ref tz] ++ [.ref tw, .ref tn, .ref tn])) := hm5 l3 _ upd_same fun e => absurd e pl3
        have kw : Tp H5 tw [.str "whole", .int (r - 10)] := tp_mv hm5 (tp_new hl3 (tp_new hl2 tp_up))
        have kn5 : Tp H5 tn [.str "noise", .int a, .int b] := tp_mv hm5 (tp_new hl3 (tp_new hl2 (tp_new htw kn)))
        have kx5 : Tp H5 tx [.str "x"] := tp_mv hm5 (tp_new hl3 (tp_new hl2 (tp_new htw kx)))
        have kz5 : Tp H5 tz [.str "z"] := tp_mv hm5 (tp_new hl3 (tp_new hl2 (tp_new htw kz)))
        have m5 : Mv p H H5 := (((m4.nw htw).nw hl2).nw hl3).tr hm5
        obtain ⟨v, hv, ev⟩ : ∃ v, FdP H5 (m + 1) v ∧ atI ([.ref tn, .ref tx, .ref tz] ++ [.ref tw, .ref tn, .ref tn] : List V) q = some v := by
          have : q = 0 ∨ q = 1 ∨ q = 2 ∨ q = 3 ∨ q = 4 ∨ q = 5 := by omega
          rcases this with rfl | rfl | rfl | rfl | rfl | rfl
          · exact ⟨_, .noise kn5 a0 (by omega) b0 (by omega), rfl⟩
          · exact ⟨_, .x kx5, rfl⟩
          · exact ⟨_, .z kz5, rfl⟩
          · exact ⟨_, .whole kw (by omega) (by omega), rfl⟩
          · exact ⟨_, .noise kn5 a0 (by omega) b0 (by omega), rfl⟩
          · exact ⟨_, .noise kn5 a0 (by omega) b0 (by omega), rfl⟩
        refine ⟨l3, _, q, v, rfl, rfl, Evl.sq_of el3, ev, ?_⟩
        exact kk v H5 (purse_mono hp5 (by show c + 5 ≤ c + drB (m + 1); have := drB_ge (m + 1); omega)) m5 hv

      · walk_at "rd"
        have dB : drB (m + 1) = 5 + 4 * drB m := rfl
        have ec : ((m + 1 : Nat) : Int) - 1 = (m : Int) := by omega
        refine hs m rfl _ _ _ _ ⟨p, c + 1, (by show [V.ref p, V.int (((m + 1 : Nat) : Int) - 1)] = _; rw [ec]), hp1, by omega, fun v1 H2 hp2 hm2 f1 => ?_⟩
        have m2 : Mv p H H2 := by walk_at "mv"
        by_cases h3 : way = 3
        · walk_at "rd"
          refine ⟨p, 9000, _, rfl, hp2, by omega, by omega, by omega, fun d H3 d0 d1 hp3 hm3 => ?_⟩
          walk_at "rd"
          rename_i t ht
          exact kk _ _ (purse_mono (purse_new hp3 ht) (by omega)) (by walk_at "mv") (.over tp_up (f1.mono (fun a xs h => tp_new ht (tp_mv hm3 h))) (by omega) (by omega))
        by_cases h4 : way = 4
        · walk_at "rd"
          refine ⟨p, 21, _, rfl, hp2, by omega, by omega, by omega, fun d H3 d0 d1 hp3 hm3 => ?_⟩
          walk_at "rd"
          refine ⟨p, 21, _, rfl, hp3, by omega, by omega, by omega, fun e H4 e0 e1 hp4 hm4 => ?_⟩
          walk_at "rd"
          rename_i t ht
          exact kk _ _ (purse_mono (purse_new hp4 ht) (by omega)) (by walk_at "mv") (.shift tp_up (f1.mono (fun a xs h => tp_new ht (tp_mv hm4 (tp_mv hm3 h)))) (by omega) (by omega) (by omega) (by omega))
        walk_at "rd"
        refine hs m rfl _ _ _ _ ⟨p, c + 1 + drB m, (by show [V.ref p, V.int (((m + 1 : Nat) : Int) - 1)] = _; rw [ec]), hp2, by omega, fun v2 H3 hp3 hm3 f2 => ?_⟩
        by_cases h5 : way = 5
        · walk_at "rd"
          refine hs m rfl _ _ _ _ ⟨p, c + 1 + drB m + drB m, (by show [V.ref p, V.int (((m + 1 : Nat) : Int) - 1)] = _; rw [ec]), hp3, by omega, fun v3 H4 hp4 hm4 f3 => ?_⟩
          walk_at "rd"
          refine hs m rfl _ _ _ _ ⟨p, c + 1 + drB m + drB m + drB m, (by show [V.ref p, V.int (((m + 1 : Nat) : Int) - 1)] = _; rw [ec]), hp4, by omega, fun v4 H5 hp5 hm5 f4 => ?_⟩
          walk_at "rd"
          rename_i t ht
          exact kk _ _ (purse_mono (purse_new hp5 ht) (by omega)) (by walk_at "mv") (.lt4 tp_up (f1.mono (fun a xs h => tp_new ht (tp_mv hm5 (tp_mv hm4 (tp_mv hm3 h))))) (f2.mono (fun a xs h => tp_new ht (tp_mv hm5 (tp_mv hm4 h)))) (f3.mono (fun a xs h => tp_new ht (tp_mv hm5 h))) (f4.mono (fun a xs h => tp_new ht h)))
        walk_at "rd"
        rename_i l hl
        refine ⟨p, 6, _, rfl, purse_new hp3 hl, by omega, by omega, by omega, fun q H4 q0 q1 hp4 hm4 => ?_⟩
        have el := hm4 l _ upd_same fun e => absurd e (purse_ne hp3 hl)
        obtain ⟨x, hx, ev⟩ : ∃ x, Bin5 x ∧ atI ([.str "plus", .str "less", .str "times", .str "least", .str "most", .str "plus"] : List V) q = some (.str x) := by
          have : q = 0 ∨ q = 1 ∨ q = 2 ∨ q = 3 ∨ q = 4 ∨ q = 5 := by omega
          rcases this with rfl | rfl | rfl | rfl | rfl | rfl
          · exact ⟨_, .plus, rfl⟩
          · exact ⟨_, .less, rfl⟩
          · exact ⟨_, .times, rfl⟩
          · exact ⟨_, .least, rfl⟩
          · exact ⟨_, .most, rfl⟩
          · exact ⟨_, .plus, rfl⟩
        refine ⟨l, _, q, _, rfl, rfl, Evl.sq_of el, ev, ?_⟩
        walk_at "rd"
        rename_i t ht
        have m4 : Mv p H H4 := ((m2.tr hm3).nw hl).tr hm4
        exact kk _ _ (purse_mono (purse_new hp4 ht) (by omega)) (m4.nw ht) (.bin hx tp_up (f1.mono (fun a xs h => tp_new ht (tp_mv hm4 (tp_new hl (tp_mv hm3 h))))) (f2.mono (fun a xs h => tp_new ht (tp_mv hm4 (tp_new hl h)))))
theorem h_law_rules (T : Txt K w mg D) (F : DefAt K mg "_law_rules" s__law_rules [] []) (G_law_draw : Has P w K mg base 2 "_law_draw" spDraw []) : ∀ n, n ≤ 2 → Has P w K mg base (n + 3) "_law_rules" (spDrawn n) []
  | 0, hn => b_law_rules 0 0 hn T F G_law_draw (fun m h => nomatch h) (has_no F sc__law_rules (fun _ _ _ _ _ _ us hl => match us, hl with | [_, _], _ => rfl))
  | n + 1, hn => b_law_rules (n + 1) (n + 1) hn T F G_law_draw (fun m h vs H Q E q => by cases h; exact q) (h_law_rules T F G_law_draw n (by omega))

end Kw
set_option Elab.async false
set_option linter.all false
set_option maxRecDepth 100000
set_option maxHeartbeats 2000000
namespace Kw
open PySem PySem.Spec PyProof.Rows L2
local macro_rules | `(tactic| walk_at "tp") => `(tactic| repeat (first | assumption | exact tp_up | refine tp_new (by assumption) ?_ | refine tp_lst (by assumption) ?_ | refine tp_ex (by assumption) ?_ | refine tp_mv (by assumption) ?_))
local macro_rules | `(tactic| walk_at "sq") => `(tactic| repeat (first | assumption | exact sq_up | exact sl_up | exact tp_sq (by assumption) | exact Evl.sq_of (by assumption) | refine sq_new (by assumption) ?_ | refine sl_new (by assumption) ?_ | refine sq_lst (by assumption) ?_ | refine sq_ex (by assumption) ?_ | refine sl_ex (by assumption) ?_ | refine sq_mv (by assumption) ?_))
local macro_rules | `(tactic| walk_at "ex") => `(tactic| repeat (first | assumption | exact Ex.rfl' _ | refine Ex.nw ?_ (by assumption) | refine Ex.tr ?_ (by assumption)))
local macro_rules | `(tactic| walk_at "cond") => `(tactic| first | decide | exact Or.inl ⟨by omega, by omega⟩ | exact Or.inr ⟨by omega, by omega⟩ | exact ⟨by omega, by omega⟩ | omega)
local macro_rules | `(tactic| walk_at "rd1") => `(tactic| first
  | refine ⟨_, rfl, ?_⟩
  | refine ⟨_, _, rfl, rfl, ?_⟩
  | refine ⟨_, _, rfl, ?_⟩
  | refine ⟨rfl, ?_⟩
  | refine ⟨_, _, _, rfl, ?_⟩
  | (refine' ⟨_, _, _, _, rfl, rfl, ?h, ?ha, ?q⟩; (case h => walk_at "sq"); (case ha => first | rfl | exact at_c0 _ _ | (refine at_vals ?_; omega) | exact atI_nat (by assumption)))
  | refine ⟨_, _, _, _, rfl, ?_⟩
  | refine ⟨_, _, _, _, _, rfl, ?_⟩
  | (refine' ⟨_, _, rfl, ?h, ?ha, ?q⟩; (case h => walk_at "sq"); (case ha => first | rfl | exact Nat.le_of_ble_eq_true rfl))
  | refine Or.inr ⟨_, rfl, ?_⟩
  | (refine' ⟨_, _, rfl, Or.inr ?h, ?q⟩; (case h => walk_at "sq"))
  | (refine' ⟨_, _, rfl, Or.inl ?h, ?q⟩; (case h => walk_at "sq"))
  | refine ⟨_, _, _, _, _, rfl, .ty _, .base (.int _), kit_ty kit_ii, ?_⟩
  | refine ⟨_, _, _, _, _, rfl, .ty _, .base (.int _), kit_ty kit_ib, ?_⟩
  | refine ⟨_, _, _, _, _, rfl, .ty _, .base (.str _), kit_ty kit_ss, ?_⟩
  | refine ⟨_, _, _, _, _, rfl, .ty _, .base (.tup (by assumption)), kit_ty kit_tt, ?_⟩
  | with_reducible refine iteT ?_
  | with_reducible refine iteF ?_
  | refine ite_yes (by first | decide | omega) ?_
  | refine ite_no (by first | decide | omega) ?_
  | refine ite_no (fun z => absurd (V.str.inj z) (by assumption)) ?_
  | refine ite_no (fun z => absurd (V.int.inj z) (by omega)) ?_
  | refine ite_yes (congrArg V.int (by omega)) ?_
  | refine ite_nyes (by first | decide | omega) ?_
  | refine ite_nno (by first | decide | omega) ?_
  | (refine' And.intro (Or.inl ⟨rfl, _, ?h⟩) ?q; (case h => first | exact SqL.of (by first | assumption | exact upd_same) | walk_at "sq"))
  | (refine' And.intro ?h ?q; (case h => exact Evl.sz_of (Nat.le_of_ble_eq_true rfl)))
  | refine fun p (hp : (_ : Hp) p = none) => ?_
  | (refine' ⟨_, _, rfl, Or.inr ?h, rfl, rfl, ?q⟩; (case h => walk_at "sq"))
  | (refine' ⟨_, _, rfl, Or.inl ?h, rfl, rfl, ?q⟩; (case h => walk_at "sq"))
  | (refine' And.intro ?h ?q; (case h => walk_at "cond")))
local macro_rules | `(tactic| walk_at "rd") => `(tactic| repeat walk_at "rd1")
local macro_rules | `(tactic| walk_at "rs") => `(tactic| repeat' (first | walk_at "rd1" | refine ite2d (fun h => ?_) (fun h => ?_) | refine ite2n (fun h => ?_) (fun h => ?_) | refine ite2 (fun h => ?_) (fun h => ?_)))
local macro_rules | `(tactic| walk_at "pu") => `(tactic| repeat (first | assumption | refine purse_new ?_ (by assumption)))
local macro_rules | `(tactic| walk_at "mv") => `(tactic| repeat (first | assumption | exact Mv.rf _ _ | refine Mv.nw ?_ (by assumption) | refine Mv.tr ?_ (by assumption)))

variable {P : Program} {w : World} {K : PySem.W.Frag} {mg : Str → Option Value} {base : Heap} {D : Ad}
/-! ### edits -/
structure Ed where
  w : Str
  a : Int
  b : Int
  c : Int
  d : Int
  n : Int
  m : Int
inductive NumW : Str → Prop
  | set : NumW "set"
  | raise : NumW "raise"
  | least : NumW "least"
  | most : NumW "most"
theorem num_ne {x : Str} (h : NumW x) : x ≠ "copy" ∧ x ≠ "field" := by cases h <;> decide
def EdP (H : Hp) (v : V) (e : Ed) : Prop := ∃ p q, v = .ref p ∧ Tp H q [.int e.a, .int e.b, .int e.c, .int e.d] ∧ ((NumW e.w ∧ Tp H p [.str e.w, .ref q, .int e.n]) ∨ (e.w = "copy" ∧ Tp H p [.str "copy", .ref q, .int e.n, .int e.m]))
theorem EdP.mono {H H' : Hp} {v : V} {e : Ed} (t : Tst H H') (h : EdP H v e) : EdP H' v e := by
  obtain ⟨p, q, h1, h2, h3⟩ := h
  exact ⟨p, q, h1, t _ _ h2, h3.imp (fun h => ⟨h.1, t _ _ h.2⟩) (fun h => ⟨h.1, t _ _ h.2⟩)⟩
/-- box and numbers within bounds -/
def EdOk (e : Ed) : Prop := (-1000000 ≤ e.a ∧ e.a ≤ e.c ∧ e.c ≤ 1000000 ∧ -1000000 ≤ e.b ∧ e.b ≤ e.d ∧ e.d ≤ 1000000) ∧ (-999999999 ≤ e.n ∧ e.n ≤ 999999999) ∧ (e.w = "copy" → -4 ≤ e.n ∧ e.n ≤ 4 ∧ -4 ≤ e.m ∧ e.m ≤ 4)
theorem all_true : ∀ k : Nat, (List.replicate k true).all id = true
  | 0 => rfl
  | k + 1 => by rw [List.replicate_succ, List.all_cons, all_true k]; rfl
def spEdit0 : Sp := fun vs H Q _ => ∃ v e, vs = [v] ∧ EdP H v e ∧ EdOk e ∧ ∀ H', Ex H H' → Q .non H'
theorem h_must_edit (F : DefAt K mg "must_edit" s_must_edit [] []) (T : Txt K w mg D) (G_must_box : Has P w K mg base 1 "must_box" (spMustBox K) [.non]) (G_is_whole : Has P w K mg base 1 "is_whole" spWhole []) : Has P w K mg base 2 "must_edit" spEdit0 [] := by
  refine has_of F sc_must_edit (fun _ _ _ _ _ _ us hl => match us, hl with | [_], _ => rfl) ?_ ?_
  · rintro _ _ _ _ ⟨_, _, rfl, _⟩; rfl
  · rintro f cdv A outer s0 H vs Q E hr ⟨v, e, rfl, ⟨p, q, rfl, hq, hp⟩, hok, kk⟩
    obtain ⟨hbx, hn, hm⟩ := hok
    refine ⟨_, pss_cons (ps_if (PW.pt (pw_or (pt_not (pt_val (pe_callB call_isi (by rfl) T.f_isinstance bt_isinstance (pa_cons (pv 0) (pa_cons (pe_bltn (v := .ty "tuple") (by rfl) T.f_tuple bt_tuple rfl) pa_nil))))) (pw_or (pt_cmpR (op_eqD hr.units) (pv 0) (pe_tup (pa_nil)) (nomark _)) (pw_or (pt_not (pt_val (pe_callB call_isi (by rfl) T.f_isinstance bt_isinstance (pa_cons (pe_ix ix_tup (pv 0) (pe_int) (fun _ _ => rfl)) (pa_cons (pe_bltn (v := .ty "str") (by rfl) T.f_str bt_str rfl) pa_nil))))) (pw_or1 (pt_cmpR op_ne (pe_tabget (pe_gr T.SORTS (by rfl)) (pe_ix ix_tup (pv 0) (pe_int) (fun _ _ => rfl)) ⟨rfl, rfl, rfl, rfl⟩) (pe_callB call_len_seq (by rfl) T.f_len bt_len (pa_cons (pv 0) (pa_nil))) (nomark _))))))) (pss_never) (pss_nil))
      (pss_cons (ps_asg (pv 0) (pg_star rfl (pgs_cons (pg_name (i := 1) sc_must_edit.nd rfl (Or.inl rfl)) (pgs_cons (pg_name (i := 2) sc_must_edit.nd rfl (Or.inl rfl)) (pgs_star (pg_name (i := 3) sc_must_edit.nd rfl (Or.inl rfl)))))))
      (pss_cons (ps_expr (pe_c G_must_box (hr.mono (by decide)) (by rfl) (pa_cons (pv 2) (pa_nil))))
      (pss_one (ps_if (pt_cmpR op_eq (pv 1) (pe_str) (nomark _)) (pss_never) (pss_cons (ps_set (i := 4) sc_must_edit.nd rfl (Or.inr rfl) (pe_ifExp (pt_cmpR op_eq (pv 1) (pe_str) (nomark _)) (pe_gi T.MOST_SHIFT_land (by rfl)) (pe_gi T.MOST_FIGURES (by rfl))))
      (pss_one (ps_if (pt_not (pt_val (pe_callB (cr_all rfl) (by rfl) T.f_all bt_all (pa_cons (pe_lc (own := [("thing", 5)]) (g := (gName 5)) rfl sc_must_edit.nd (pi_list (pv 3)) (blkOk_by (own := [("thing", 5)]) (N := nm_must_edit) (sc := defScope s_must_edit) (by decide +kernel)) (fun _ _ _ _ _ => pg_name (i := 5) sc_must_edit.nd rfl (Or.inl rfl)) (fun _ _ _ _ _ => pts_nil) (fun _ _ _ _ _ => pe_c G_is_whole (hr.mono (by decide)) (by rfl) (pa_cons (pv 5) (pa_cons (pe_op op_sub (pe_int) (pv 4)) (pa_cons (pv 4) (pa_nil)))))) (pa_nil))))) (pss_never) (pss_nil)))))))), ?_⟩
    rcases hp with ⟨hw, hp⟩ | ⟨hw, hp⟩
    · have hsort : KDct K w D.S e.w (.int 3) := by
        generalize e.w = x at hw
        cases hw
        · exact T.e_set
        · exact T.e_raise
        · exact T.e_least
        · exact T.e_most
      have hso : PyData.strOk e.w = true := by
        generalize e.w = x at hw
        cases hw <;> decide +kernel
      obtain ⟨hn1, hn2⟩ := num_ne hw
      have hd : Dat K H 2 (.ref p) (.tuple [.str e.w, .tuple [.int e.a, .int e.b, .int e.c, .int e.d], .int e.n]) := dat_3 hp (dat_str hso) (dat_4 (n := 0) hq (dat_int _) (dat_int _) (dat_int _) (dat_int _)) (dat_int _)
      walk_at "rd"
      rename_i p0 hp0
      refine ⟨_, .tuple [], (hd.mono (Ex.nw (Ex.rfl' H) hp0)).dp, dp_tup (tp_up (H := H)) .nil, hd.shp (by decide), rfl, ?_⟩
      walk_at "rd"
      refine ⟨T.lS, ⟨_, _, T.e_set⟩, ?_⟩
      walk_at "rd"
      refine ⟨_, _, rfl, hsort, ?_⟩
      walk_at "rd"
      rename_i l hl
      have ql : SqT K (upd (upd H p0 (.tup [])) l (.lst [.int e.n])) q [.int e.a, .int e.b, .int e.c, .int e.d] := tp_sq (tp_new hl (tp_new hp0 hq))
      refine ⟨q, e.a, e.b, e.c, e.d, .non, rfl, .inl rfl, ql, hbx, .inl rfl, ?_⟩
      walk_at "rd"
      refine ⟨⟨[.int e.n], sl_up⟩, ?_⟩
      intro d hd2
      have hld : l ≠ d := ne_of_none upd_same hd2
      have eb : Ex H (upd (upd H p0 (.tup [])) l (.lst [.int e.n])) := by walk_at "ex"
      refine lc_list (K := K) (a := l) (xs := [.int e.n]) (fun i H' => Here (Ex H H' ∧ H' l = some (.lst [.int e.n]) ∧ H' d = some (.lst ((List.replicate i true).map V.bl)))) (.it ⟨Ex.nw eb hd2, (upd_ne hld).trans upd_same, upd_same⟩) (fun i H' _ hh => Evl.sq_of hh.get.2.1) ?_ ?_
      · intro i x H' hx hh
        obtain ⟨he, hl2, hd3⟩ := hh.get
        have hi : i < 1 := (List.getElem?_eq_some_iff.mp hx).1
        obtain ⟨z, rfl, hz⟩ : ∃ z : Int, x = .int z ∧ (-999999999 ≤ z ∧ z ≤ 999999999) := by
          match i, hx with
          | 0, h => exact ⟨_, (Option.some.inj h).symm, hn⟩
        walk_at "rd"
        refine ⟨_, hd3, Evl.sz_lt (by simp; omega), .it ⟨Ex.mu he (Ex.fr eb hd2), by rw [upd_ne hld]; exact hl2, ?_⟩⟩
        rw [List.replicate_succ', List.map_append]; exact upd_same
      · intro H' hh
        obtain ⟨he, hl2, hd3⟩ := hh.get
        walk_at "rd"
        refine ⟨d, List.replicate 1 true, rfl, Evl.sq_of hd3, ?_⟩
        walk_at "rd"
        exact kk _ he
    · obtain ⟨hm1, hm2, hm3, hm4⟩ := hm hw
      have hd : Dat K H 2 (.ref p) (.tuple [.str "copy", .tuple [.int e.a, .int e.b, .int e.c, .int e.d], .int e.n, .int e.m]) := dat_4 hp (dat_str (by decide +kernel)) (dat_4 (n := 0) hq (dat_int _) (dat_int _) (dat_int _) (dat_int _)) (dat_int _) (dat_int _)
      walk_at "rd"
      rename_i p0 hp0
      refine ⟨_, .tuple [], (hd.mono (Ex.nw (Ex.rfl' H) hp0)).dp, dp_tup (tp_up (H := H)) .nil, hd.shp (by decide), rfl, ?_⟩
      walk_at "rd"
      refine ⟨T.lS, ⟨_, _, T.e_set⟩, ?_⟩
      walk_at "rd"
      refine ⟨_, _, rfl, T.e_copy, ?_⟩
      walk_at "rd"
      rename_i l hl
      have ql : SqT K (upd (upd H p0 (.tup [])) l (.lst [.int e.n, .int e.m])) q [.int e.a, .int e.b, .int e.c, .int e.d] := tp_sq (tp_new hl (tp_new hp0 hq))
      refine ⟨q, e.a, e.b, e.c, e.d, .non, rfl, .inl rfl, ql, hbx, .inl rfl, ?_⟩
      walk_at "rd"
      refine ⟨⟨[.int e.n, .int e.m], sl_up⟩, ?_⟩
      intro d hd2
      have hld : l ≠ d := ne_of_none upd_same hd2
      have eb : Ex H (upd (upd H p0 (.tup [])) l (.lst [.int e.n, .int e.m])) := by walk_at "ex"
      refine lc_list (K := K) (a := l) (xs := [.int e.n, .int e.m]) (fun i H' => Here (Ex H H' ∧ H' l = some (.lst [.int e.n, .int e.m]) ∧ H' d = some (.lst ((List.replicate i true).map V.bl)))) (.it ⟨Ex.nw eb hd2, (upd_ne hld).trans upd_same, upd_same⟩) (fun i H' _ hh => Evl.sq_of hh.get.2.1) ?_ ?_
      · intro i x H' hx hh
        obtain ⟨he, hl2, hd3⟩ := hh.get
        have hi : i < 2 := (List.getElem?_eq_some_iff.mp hx).1
        obtain ⟨z, rfl, hz⟩ : ∃ z : Int, x = .int z ∧ (-4 ≤ z ∧ z ≤ 4) := by
          match i, hx with
          | 0, h => exact ⟨_, (Option.some.inj h).symm, hm1, hm2⟩
          | 1, h => exact ⟨_, (Option.some.inj h).symm, hm3, hm4⟩
        walk_at "rd"
        refine ⟨_, hd3, Evl.sz_lt (by simp; omega), .it ⟨Ex.mu he (Ex.fr eb hd2), by rw [upd_ne hld]; exact hl2, ?_⟩⟩
        rw [List.replicate_succ', List.map_append]; exact upd_same
      · intro H' hh
        obtain ⟨he, hl2, hd3⟩ := hh.get
        walk_at "rd"
        refine ⟨d, List.replicate 2 true, rfl, Evl.sq_of hd3, ?_⟩
        walk_at "rd"
        exact kk _ he
/-! ### overlays, range_after -/
def isOv (x : Str) : Bool := decide (x = "set") || decide (x = "field") || decide (x = "copy")
def spOver : Sp := fun vs H Q _ => ∃ v e, vs = [v] ∧ EdP H v e ∧ ∀ H', Ex H H' → Q (.bl (isOv e.w)) H'
theorem h_overlays (F : DefAt K mg "overlays" s_overlays [] []) (T : Txt K w mg D) : Has P w K mg base 1 "overlays" spOver [] := by
  refine has_of F sc_overlays (fun _ _ _ _ _ _ us hl => match us, hl with | [_], _ => rfl) ?_ ?_
  · rintro _ _ _ _ ⟨_, _, rfl, _⟩; rfl
  · rintro f cdv A outer s0 H vs Q E hr ⟨v, e, rfl, ⟨p, q, rfl, hq, hp⟩, kk⟩
    refine ⟨_, pss_one (ps_ret (pe_cmpR op_in_seq (pe_ix ix_tup (pv 0) (pe_int) (fun _ _ => rfl)) (pe_tup (pa_cons (pe_str) (pa_cons (pe_str) (pa_cons (pe_str) (pa_nil))))) rfl)), ?_⟩
    rcases hp with ⟨hw, hp⟩ | ⟨hw, hp⟩
    · walk_at "rd"
      refine qb (kk _ (by walk_at "ex")) ?_
      generalize e.w = x at hw
      cases hw <;> decide
    · walk_at "rd"
      refine qb (kk _ (by walk_at "ex")) ?_
      rw [hw]
      decide
def ap1 (e : Ed) (v : Int) : Int := if e.w = "set" then e.n else if e.w = "raise" then v + e.n else if e.w = "least" then (if e.n > v then e.n else v) else (if e.n < v then e.n else v)
def spAfter : Sp := fun vs H Q _ => ∃ v e, ∃ lo hi : Int, vs = [v, .int lo, .int hi] ∧ EdP H v e ∧ e.w ≠ "copy" ∧ ∀ t H', Ex H H' → Tp H' t [.int (ap1 e lo), .int (ap1 e hi)] → Q (.ref t) H'
theorem h_range_after (F : DefAt K mg "range_after" s_range_after [] []) (T : Txt K w mg D) : Has P w K mg base 1 "range_after" spAfter [] := by
  refine has_of F sc_range_after (fun _ _ _ _ _ _ us hl => match us, hl with | [_, _, _], _ => rfl) ?_ ?_
  · rintro _ _ _ _ ⟨_, _, _, _, rfl, _⟩; rfl
  · rintro f cdv A outer s0 H vs Q E hr ⟨v, e, lo, hi, rfl, ⟨p, q, rfl, hq, hp⟩, hc, kk⟩
    refine ⟨_, pss_cons (ps_asg (pv 0) (pg_tup rfl (pgs_cons (pg_name (i := 3) sc_range_after.nd rfl (Or.inl rfl)) (pgs_cons (pg_name (i := 4) sc_range_after.nd rfl (Or.inl rfl)) (pgs_cons (pg_name (i := 5) sc_range_after.nd rfl (Or.inl rfl)) (pgs_nil))))))
      (pss_cons (ps_if (pt_cmpR op_eq (pv 3) (pe_str) (nomark _)) (pss_one (ps_ret (pe_tup (pa_cons (pv 5) (pa_cons (pv 5) (pa_nil)))))) (pss_nil))
      (pss_cons (ps_if (pt_cmpR op_eq (pv 3) (pe_str) (nomark _)) (pss_one (ps_ret (pe_tup (pa_cons (pe_op op_add (pv 1) (pv 5)) (pa_cons (pe_op op_add (pv 2) (pv 5)) (pa_nil)))))) (pss_nil))
      (pss_cons (ps_if (pt_cmpR op_eq (pv 3) (pe_str) (nomark _)) (pss_one (ps_ret (pe_tup (pa_cons (pe_callB (call_max2 rfl) (by rfl) T.f_max bt_max (pa_cons (pv 1) (pa_cons (pv 5) (pa_nil)))) (pa_cons (pe_callB (call_max2 rfl) (by rfl) T.f_max bt_max (pa_cons (pv 2) (pa_cons (pv 5) (pa_nil)))) (pa_nil)))))) (pss_nil))
      (pss_one (ps_ret (pe_tup (pa_cons (pe_callB (call_min2 rfl) (by rfl) T.f_min bt_min (pa_cons (pv 1) (pa_cons (pv 5) (pa_nil)))) (pa_cons (pe_callB (call_min2 rfl) (by rfl) T.f_min bt_min (pa_cons (pv 2) (pa_cons (pv 5) (pa_nil)))) (pa_nil))))))))), ?_⟩
    rcases hp with ⟨hw, hp⟩ | ⟨hw, hp⟩
    · obtain ⟨x, a, b, c, d, n, m⟩ := e
      dsimp only at hw hp hq
      cases hw <;> walk_at "rd" <;> exact kk _ _ (by walk_at "ex") tp_up
    · exact absurd hw hc

end Kw
set_option Elab.async false
set_option linter.all false
set_option maxRecDepth 100000
set_option maxHeartbeats 2000000
namespace Kw
open PySem PySem.Spec PyProof.Rows L2
local macro_rules | `(tactic| walk_at "in") => `(tactic| repeat (first | assumption | refine in_new (by assumption) ?_ | refine in_ex (by assumption) ?_))
local macro_rules | `(tactic| walk_at "lk") => `(tactic| first | exact lk_laid _ | exact lk_code _ | exact lk_grain _ | exact lk_past _ | exact lk_future _ | exact lk_shelf _ | exact lk_last _)
local macro_rules | `(tactic| walk_at "tp") => `(tactic| repeat (first | assumption | exact tp_up | refine tp_new (by assumption) ?_ | refine tp_lst (by assumption) ?_ | refine tp_ex (by assumption) ?_ | refine tp_mv (by assumption) ?_))
local macro_rules | `(tactic| walk_at "sq") => `(tactic| repeat (first | assumption | exact sq_up | exact sl_up | exact tp_sq (by assumption) | exact Evl.sq_of (by assumption) | refine sq_new (by assumption) ?_ | refine sl_new (by assumption) ?_ | refine sq_lst (by assumption) ?_ | refine sq_ex (by assumption) ?_ | refine sl_ex (by assumption) ?_ | refine sq_mv (by assumption) ?_))
local macro_rules | `(tactic| walk_at "ex") => `(tactic| repeat (first | assumption | exact Ex.rfl' _ | refine Ex.nw ?_ (by assumption) | refine Ex.tr ?_ (by assumption)))
local macro_rules | `(tactic| walk_at "cond") => `(tactic| first | decide | exact Or.inl ⟨by omega, by omega⟩ | exact Or.inr ⟨by omega, by omega⟩ | exact ⟨by omega, by omega⟩ | omega)
local macro_rules | `(tactic| walk_at "rd1") => `(tactic| first
  | refine ⟨_, rfl, ?_⟩
  | refine ⟨_, _, rfl, rfl, ?_⟩
  | refine ⟨_, _, rfl, ?_⟩
  | refine ⟨rfl, ?_⟩
  | refine ⟨_, _, _, rfl, ?_⟩
  | (refine' ⟨_, _, _, _, rfl, rfl, ?h, ?ha, ?q⟩; (case h => walk_at "sq"); (case ha => first | assumption | rfl | exact at_c0 _ _ | exact at_c1 _ _ _ | exact at_c2 _ _ _ _ | (refine at_vals ?_; omega) | exact atI_nat (by assumption)))
  | refine ⟨_, _, _, _, rfl, ?_⟩
  | refine ⟨_, _, _, _, _, rfl, ?_⟩
  | (refine' ⟨_, _, rfl, ?h, ?ha, ?q⟩; (case h => walk_at "sq"); (case ha => first | rfl | exact Nat.le_of_ble_eq_true rfl))
  | refine Or.inr ⟨_, rfl, ?_⟩
  | (refine' ⟨_, _, rfl, Or.inr ?h, ?q⟩; (case h => walk_at "sq"))
  | (refine' ⟨_, _, rfl, Or.inl ?h, ?q⟩; (case h => walk_at "sq"))
  | refine ⟨_, _, _, _, _, rfl, .ty _, .base (.int _), kit_ty kit_ii, ?_⟩
  | refine ⟨_, _, _, _, _, rfl, .ty _, .base (.int _), kit_ty kit_ib, ?_⟩
  | refine ⟨_, _, _, _, _, rfl, .ty _, .base (.str _), kit_ty kit_ss, ?_⟩
  | refine ⟨_, _, _, _, _, rfl, .ty _, .base (.tup (by assumption)), kit_ty kit_tt, ?_⟩
  | with_reducible refine iteT ?_
  | with_reducible refine iteF ?_
  | refine ite_yes (by first | decide | omega) ?_
  | refine ite_no (by first | decide | omega) ?_
  | refine ite_no (fun z => absurd (V.str.inj z) (by assumption)) ?_
  | refine ite_no (fun z => absurd (V.int.inj z) (by omega)) ?_
  | refine ite_yes (congrArg V.int (by omega)) ?_
  | refine ite_nyes (by first | decide | omega) ?_
  | refine ite_nno (by first | decide | omega) ?_
  | (refine' And.intro (Or.inl ⟨rfl, _, ?h⟩) ?q; (case h => first | exact SqL.of (by first | assumption | exact upd_same) | walk_at "sq"))
  | (refine' And.intro ?h ?q; (case h => exact Evl.sz_of (Nat.le_of_ble_eq_true rfl)))
  | refine fun p (hp : (_ : Hp) p = none) => ?_
  | (refine' ⟨_, _, rfl, Or.inr ?h, rfl, rfl, ?q⟩; (case h => walk_at "sq"))
  | (refine' ⟨_, _, rfl, Or.inl ?h, rfl, rfl, ?q⟩; (case h => walk_at "sq"))
  | (refine' ⟨_, _, _, _, _, rfl, ?h, ?c, ?n, ?l, ?q⟩; (case h => walk_at "in"); (case c => assumption); (case n => assumption); (case l => walk_at "lk"))
  | (refine' ⟨_, _, _, rfl, ?h, ?l, ?q⟩; (case h => walk_at "in"); (case l => exact lk_none (by decide) _))
  | (refine' And.intro ?h ?q; (case h => walk_at "cond")))
local macro_rules | `(tactic| walk_at "rd") => `(tactic| repeat walk_at "rd1")
local macro_rules | `(tactic| walk_at "rs") => `(tactic| repeat' (first | walk_at "rd1" | refine ite2d (fun h => ?_) (fun h => ?_) | refine ite2n (fun h => ?_) (fun h => ?_) | refine ite2 (fun h => ?_) (fun h => ?_)))
local macro_rules | `(tactic| walk_at "pu") => `(tactic| repeat (first | assumption | refine purse_new ?_ (by assumption)))
local macro_rules | `(tactic| walk_at "mv") => `(tactic| repeat (first | assumption | exact Mv.rf _ _ | refine Mv.nw ?_ (by assumption) | refine Mv.tr ?_ (by assumption)))

variable {P : Program} {w : World} {K : PySem.W.Frag} {mg : Str → Option Value} {base : Heap} {D : Ad}
/-! ### a land -/
theorem at_c1 {α : Type} (a b : α) (l : List α) : atI (a :: b :: l) 1 = some b := atI_nat (j := 1) rfl
theorem at_c2 {α : Type} (a b c : α) (l : List α) : atI (a :: b :: c :: l) 2 = some c := atI_nat (j := 2) rfl

structure Lnd where
  dx : Addr
  v : V
  g : Int
  code : Addr
  codes : Addr
  laid : Addr
  last : Int
  past : Addr
  fut : Addr
  shelf : Addr
  fs : List Stp
  es : List Ed
  ps : List (List Ed)
  nf : Nat
def lf (L : Lnd) : List (Str × V) := [("base", L.v), ("grain", .int L.g), ("code", .ref L.code), ("codes", .ref L.codes), ("laid", .ref L.laid), ("last", .int L.last), ("past", .ref L.past), ("future", .ref L.fut), ("room", .int 64), ("shelf", .ref L.shelf)]
theorem lk_h {k : Str} {v : V} {r : List (Str × V)} : List.lookup k ((k, v) :: r) = some v := by
  have e : (k == k) = true := beq_self_eq_true k
  simp only [List.lookup, e]
theorem lk_p {k g : Str} {v u : V} {r : List (Str × V)} (h : (k == g) = false) (q : List.lookup k r = some u) : List.lookup k ((g, v) :: r) = some u := by
  simp only [List.lookup, h]; exact q
theorem lk_n {k g : Str} {v : V} {r : List (Str × V)} (h : (k == g) = false) (q : List.lookup k r = none) : List.lookup k ((g, v) :: r) = none := by
  simp only [List.lookup, h]; exact q
theorem lk_grain (L : Lnd) : (lf L).lookup ("grain" : Str) = some (.int L.g) := lk_p (by decide +kernel) lk_h
theorem lk_code (L : Lnd) : (lf L).lookup ("code" : Str) = some (.ref L.code) := lk_p (by decide +kernel) (lk_p (by decide +kernel) lk_h)
theorem lk_laid (L : Lnd) : (lf L).lookup ("laid" : Str) = some (.ref L.laid) := lk_p (by decide +kernel) (lk_p (by decide +kernel) (lk_p (by decide +kernel) (lk_p (by decide +kernel) lk_h)))
theorem lk_last (L : Lnd) : (lf L).lookup ("last" : Str) = some (.int L.last) := lk_p (by decide +kernel) (lk_p (by decide +kernel) (lk_p (by decide +kernel) (lk_p (by decide +kernel) (lk_p (by decide +kernel) lk_h))))
theorem lk_past (L : Lnd) : (lf L).lookup ("past" : Str) = some (.ref L.past) := lk_p (by decide +kernel) (lk_p (by decide +kernel) (lk_p (by decide +kernel) (lk_p (by decide +kernel) (lk_p (by decide +kernel) (lk_p (by decide +kernel) lk_h)))))
theorem lk_future (L : Lnd) : (lf L).lookup ("future" : Str) = some (.ref L.fut) := lk_p (by decide +kernel) (lk_p (by decide +kernel) (lk_p (by decide +kernel) (lk_p (by decide +kernel) (lk_p (by decide +kernel) (lk_p (by decide +kernel) (lk_p (by decide +kernel) lk_h))))))
theorem lk_shelf (L : Lnd) : (lf L).lookup ("shelf" : Str) = some (.ref L.shelf) := lk_p (by decide +kernel) (lk_p (by decide +kernel) (lk_p (by decide +kernel) (lk_p (by decide +kernel) (lk_p (by decide +kernel) (lk_p (by decide +kernel) (lk_p (by decide +kernel) (lk_p (by decide +kernel) (lk_p (by decide +kernel) lk_h))))))))
theorem lk_none {m : Str} (h : m ∈ (["height", "height_at", "height_by", "change", "noted", "put", "edit", "back"] : List Str)) (L : Lnd) : (lf L).lookup m = none := by
  have key : ∀ m ∈ (["height", "height_at", "height_by", "change", "noted", "put", "edit", "back"] : List Str), (m == "base") = false ∧ (m == "grain") = false ∧ (m == "code") = false ∧ (m == "codes") = false ∧ (m == "laid") = false ∧ (m == "last") = false ∧ (m == "past") = false ∧ (m == "future") = false ∧ (m == "room") = false ∧ (m == "shelf") = false := by decide +kernel
  obtain ⟨a, b, c, d, e, f, g, i, j, k⟩ := key m h
  exact lk_n a (lk_n b (lk_n c (lk_n d (lk_n e (lk_n f (lk_n g (lk_n i (lk_n j (lk_n k rfl)))))))))
/-- a tuple of numbered edits -/
def LaidAt (H : Hp) (p : Addr) (es : List Ed) : Prop := ∃ us, Tp H p us ∧ Paired (fun u (e : Ed) => ∃ q k w, u = V.ref q ∧ Tp H q [.int k, w] ∧ EdP H w e) us es
theorem laid_pair {H H' : Hp} (t : Tst H H') : ∀ {us : List V} {es : List Ed}, Paired (fun u (e : Ed) => ∃ q k w, u = V.ref q ∧ Tp H q [.int k, w] ∧ EdP H w e) us es → Paired (fun u (e : Ed) => ∃ q k w, u = V.ref q ∧ Tp H' q [.int k, w] ∧ EdP H' w e) us es
  | _, _, .nil => .nil
  | _, _, .cons ⟨q, k, w, h1, h2, h3⟩ r => .cons ⟨q, k, w, h1, t _ _ h2, h3.mono t⟩ (laid_pair t r)
theorem LaidAt.mono {H H' : Hp} {p : Addr} {es : List Ed} (t : Tst H H') (h : LaidAt H p es) : LaidAt H' p es := by
  obtain ⟨us, h1, h2⟩ := h
  exact ⟨us, t _ _ h1, laid_pair t h2⟩
abbrev PastP (H : Hp) (us : List V) (ps : List (List Ed)) : Prop := Paired (fun u (es : List Ed) => ∃ p, u = V.ref p ∧ LaidAt H p es ∧ (∀ e ∈ es, EdOk e) ∧ es.length ≤ 20) us ps
theorem past_pair {H H' : Hp} (t : Tst H H') : ∀ {us : List V} {ps : List (List Ed)}, PastP H us ps → PastP H' us ps
  | _, _, .nil => .nil
  | _, _, .cons ⟨p, h1, h2, h3⟩ r => .cons ⟨p, h1, h2.mono t, h3⟩ (past_pair t r)
structure LandAt (D : Ad) (H : Hp) (a : Addr) (L : Lnd) : Prop where
  ins : H a = some (.ins D.C L.dx (lf L))
  code : StL H L.code L.fs
  cok : CodeOk L.fs
  laid : LaidAt H L.laid L.es
  eok : ∀ e ∈ L.es, EdOk e
  elen : L.es.length ≤ 20
  past : ∃ us, H L.past = some (.lst us) ∧ us.length ≤ 20 ∧ PastP H us L.ps
  fut : ∃ us, H L.fut = some (.lst us) ∧ us.length = L.nf
  shelf : H L.shelf = some (.dK [])
  pf : L.past ≠ L.fut
  pc : L.past ≠ L.code
  fc : L.fut ≠ L.code
theorem LandAt.ex {H H' : Hp} {a : Addr} {L : Lnd} (h : LandAt D H a L) (e : Ex H H') : LandAt D H' a L where
  ins := e _ _ h.ins
  code := h.code.ex e
  cok := h.cok
  laid := h.laid.mono (.ex e)
  eok := h.eok
  elen := h.elen
  past := by
    obtain ⟨us, h1, h2, h3⟩ := h.past
    exact ⟨us, e _ _ h1, h2, past_pair (.ex e) h3⟩
  fut := by
    obtain ⟨us, h1, h2⟩ := h.fut
    exact ⟨us, e _ _ h1, h2⟩
  shelf := e _ _ h.shelf
  pf := h.pf
  pc := h.pc
  fc := h.fc
/-! the heights, in plain words -/
def hgtR (base : Int → Int → Int) : List Ed → Int → Int → Int
  | [], x, z => base x z
  | e :: l, x, z => if inBx e.a e.b e.c e.d x z = true then (if e.w = "set" then e.n else if e.w = "copy" then hgtR base l (x + e.n) (z + e.m) else ap1 e (hgtR base l x z)) else hgtR base l x z
def hgt (base : Int → Int → Int) (l : List Ed) (x z : Int) : Int := hgtR base l.reverse x z
theorem hgt_nil (base : Int → Int → Int) (x z : Int) : hgt base [] x z = base x z := rfl
theorem hgt_snoc (base : Int → Int → Int) (l : List Ed) (e : Ed) (x z : Int) : hgt base (l ++ [e]) x z = if inBx e.a e.b e.c e.d x z = true then (if e.w = "set" then e.n else if e.w = "copy" then hgt base l (x + e.n) (z + e.m) else ap1 e (hgt base l x z)) else hgt base l x z := by
  unfold hgt
  rw [List.reverse_append]
  rfl
def Lnd.bs (L : Lnd) : Int → Int → Int := fun x z => lastV L.g x z L.fs
def Lnd.h (L : Lnd) : Int → Int → Int := hgt L.bs L.es
theorem in_new {H : Hp} {a p C dx : Addr} {fs : List (Str × V)} {o : HO} (e : H p = none) (h : H a = some (.ins C dx fs)) : (upd H p o) a = some (.ins C dx fs) := Evl.Ex.new e _ _ h
theorem in_ex {H H' : Hp} {a C dx : Addr} {fs : List (Str × V)} (e : Ex H H') (h : H a = some (.ins C dx fs)) : H' a = some (.ins C dx fs) := e _ _ h

end Kw
set_option Elab.async false
set_option linter.all false
set_option maxRecDepth 100000
set_option maxHeartbeats 2000000
namespace Kw
open PySem PySem.Spec PyProof.Rows L2
local macro_rules | `(tactic| walk_at "in") => `(tactic| repeat (first | assumption | refine in_new (by assumption) ?_ | refine in_ex (by assumption) ?_))
local macro_rules | `(tactic| walk_at "lk") => `(tactic| first | exact lk_laid _ | exact lk_code _ | exact lk_grain _ | exact lk_past _ | exact lk_future _ | exact lk_shelf _ | exact lk_last _)
local macro_rules | `(tactic| walk_at "tp") => `(tactic| repeat (first | assumption | exact tp_up | refine tp_new (by assumption) ?_ | refine tp_lst (by assumption) ?_ | refine tp_ex (by assumption) ?_ | refine tp_mv (by assumption) ?_))
local macro_rules | `(tactic| walk_at "sq") => `(tactic| repeat (first | assumption | exact sq_up | exact sl_up | exact tp_sq (by assumption) | exact Evl.sq_of (by assumption) | refine sq_new (by assumption) ?_ | refine sl_new (by assumption) ?_ | refine sq_lst (by assumption) ?_ | refine sq_ex (by assumption) ?_ | refine sl_ex (by assumption) ?_ | refine sq_mv (by assumption) ?_))
local macro_rules | `(tactic| walk_at "ex") => `(tactic| repeat (first | assumption | exact Ex.rfl' _ | refine Ex.nw ?_ (by assumption) | refine Ex.tr ?_ (by assumption)))
local macro_rules | `(tactic| walk_at "cond") => `(tactic| first | decide | exact Or.inl ⟨by omega, by omega⟩ | exact Or.inr ⟨by omega, by omega⟩ | exact ⟨by omega, by omega⟩ | omega)
local macro_rules | `(tactic| walk_at "rd1") => `(tactic| first
  | refine ⟨_, rfl, ?_⟩
  | refine ⟨_, _, rfl, rfl, ?_⟩
  | refine ⟨_, _, rfl, ?_⟩
  | refine ⟨rfl, ?_⟩
  | refine ⟨_, _, _, rfl, ?_⟩
  | (refine' ⟨_, _, _, _, rfl, rfl, ?h, ?ha, ?q⟩; (case h => walk_at "sq"); (case ha => first | assumption | rfl | exact at_c0 _ _ | exact at_c1 _ _ _ | exact at_c2 _ _ _ _ | (refine at_vals ?_; omega) | exact atI_nat (by assumption)))
  | refine ⟨_, _, _, _, rfl, ?_⟩
  | refine ⟨_, _, _, _, _, rfl, ?_⟩
  | (refine' ⟨_, _, rfl, ?h, ?ha, ?q⟩; (case h => walk_at "sq"); (case ha => first | rfl | exact Nat.le_of_ble_eq_true rfl))
  | refine Or.inr ⟨_, rfl, ?_⟩
  | (refine' ⟨_, _, rfl, Or.inr ?h, ?q⟩; (case h => walk_at "sq"))
  | (refine' ⟨_, _, rfl, Or.inl ?h, ?q⟩; (case h => walk_at "sq"))
  | refine ⟨_, _, _, _, _, rfl, .ty _, .base (.int _), kit_ty kit_ii, ?_⟩
  | refine ⟨_, _, _, _, _, rfl, .ty _, .base (.int _), kit_ty kit_ib, ?_⟩
  | refine ⟨_, _, _, _, _, rfl, .ty _, .base (.str _), kit_ty kit_ss, ?_⟩
  | refine ⟨_, _, _, _, _, rfl, .ty _, .base (.tup (by assumption)), kit_ty kit_tt, ?_⟩
  | with_reducible refine iteT ?_
  | with_reducible refine iteF ?_
  | refine ite_yes (by first | decide | omega) ?_
  | refine ite_no (by first | decide | omega) ?_
  | refine ite_no (fun z => absurd (V.str.inj z) (by assumption)) ?_
  | refine ite_no (fun z => absurd (V.int.inj z) (by omega)) ?_
  | refine ite_yes (congrArg V.int (by omega)) ?_
  | refine ite_nyes (by first | decide | omega) ?_
  | refine ite_nno (by first | decide | omega) ?_
  | (refine' And.intro (Or.inl ⟨rfl, _, ?h⟩) ?q; (case h => first | exact SqL.of (by first | assumption | exact upd_same) | walk_at "sq"))
  | (refine' And.intro ?h ?q; (case h => exact Evl.sz_of (Nat.le_of_ble_eq_true rfl)))
  | refine fun p (hp : (_ : Hp) p = none) => ?_
  | (refine' ⟨_, _, rfl, Or.inr ?h, rfl, rfl, ?q⟩; (case h => walk_at "sq"))
  | (refine' ⟨_, _, rfl, Or.inl ?h, rfl, rfl, ?q⟩; (case h => walk_at "sq"))
  | (refine' ⟨_, _, _, _, _, rfl, ?h, ?c, ?n, ?l, ?q⟩; (case h => walk_at "in"); (case c => assumption); (case n => assumption); (case l => walk_at "lk"))
  | (refine' ⟨_, _, _, rfl, ?h, ?l, ?q⟩; (case h => walk_at "in"); (case l => exact lk_none (by decide) _))
  | (refine' And.intro ?h ?q; (case h => walk_at "cond")))
local macro_rules | `(tactic| walk_at "rd") => `(tactic| repeat walk_at "rd1")
local macro_rules | `(tactic| walk_at "rs") => `(tactic| repeat' (first | walk_at "rd1" | refine ite2d (fun h => ?_) (fun h => ?_) | refine ite2n (fun h => ?_) (fun h => ?_) | refine ite2 (fun h => ?_) (fun h => ?_)))
local macro_rules | `(tactic| walk_at "pu") => `(tactic| repeat (first | assumption | refine purse_new ?_ (by assumption)))
local macro_rules | `(tactic| walk_at "mv") => `(tactic| repeat (first | assumption | exact Mv.rf _ _ | refine Mv.nw ?_ (by assumption) | refine Mv.tr ?_ (by assumption)))

variable {P : Program} {w : World} {K : PySem.W.Frag} {mg : Str → Option Value} {base : Heap} {D : Ad}
theorem EdP.gen {H : Hp} {v : V} {e : Ed} (h : EdP H v e) : ∃ p q r, v = .ref p ∧ Tp H q [.int e.a, .int e.b, .int e.c, .int e.d] ∧ Tp H p (.str e.w :: .ref q :: .int e.n :: r) := by
  obtain ⟨p, q, h1, h2, h3⟩ := h
  rcases h3 with ⟨_, h⟩ | ⟨e1, h⟩
  · exact ⟨p, q, [], h1, h2, h⟩
  · exact ⟨p, q, [.int e.m], h1, h2, by rw [e1]; exact h⟩
theorem seq_x {t u : TS} {D : Ends} {σ : L2.St} {H : Hp} (M : L2.St → Hp → Prop) (rest : ∀ σ H, M σ H → u D σ H) (turn : ∀ nx : L2.St → Hp → Prop, (∀ σ H, M σ H → nx σ H) → t { D with nx := nx } σ H) : tSeq t u D σ H := turn (u D) rest
theorem cut_eq {us : List V} {m c : Nat} (h1 : m ≤ c) (h2 : c ≤ us.length) : cutV us (some (m : Int)) (some (c : Int)) = (us.drop m).take (c - m) := by
  unfold cutV
  rw [HT.sIx_nat, HT.sIx_nat, Nat.min_eq_left (Nat.le_trans h1 h2), Nat.min_eq_left h2]
def cov (e : Ed) (x z : Int) : Bool := isOv e.w && inBx e.a e.b e.c e.d x z
theorem cov_no {e : Ed} {x z : Int} (h : cov e x z = false) (hi : inBx e.a e.b e.c e.d x z = true) : isOv e.w = false := by
  unfold cov at h
  rw [hi, Bool.and_true] at h
  exact h
theorem ov_ne {x : Str} (h : isOv x = false) : x ≠ "set" ∧ x ≠ "field" ∧ x ≠ "copy" := by
  unfold isOv at h
  simp only [Bool.or_eq_false_iff, decide_eq_false_iff_not] at h
  exact ⟨h.1.1, h.1.2, h.2⟩
/-! ### height_by -/
theorem while_x {c : TT} {tb : TS} {D : Ends} {σ : L2.St} {H : Hp} (M : L2.St → Hp → Prop) (W : Nat → L2.St → Hp → Prop) (h0 : ∃ m, W m σ H) (rest : ∀ σ H, M σ H → D.nx σ H)
    (turn : ∀ nx : L2.St → Hp → Prop, (∀ σ H, M σ H → nx σ H) → ∀ m σ H, W m σ H → c σ H fun b H1 => if b = true then ∃ N : L2.St → Hp → Prop, (∀ σ' H', N σ' H' → ∃ m', m' < m ∧ W m' σ' H') ∧ tb { D with nx := N, ct := N, bk := nx } σ H1 else nx σ H1) : tWhile c tb D σ H := ⟨W, h0, turn D.nx rest⟩
def spHB (D : Ad) (n : Nat) : Sp := fun vs H Q _ => ∃ (a : Addr) (L : Lnd) (x z : Int) (c : Nat), vs = [.ref a, .int x, .int z, .int c] ∧ LandAt D H a L ∧ c ≤ n ∧ c ≤ L.es.length ∧ (-8388608 + 4 * (c : Int) ≤ x ∧ x ≤ 8388608 - 4 * (c : Int) ∧ -8388608 + 4 * (c : Int) ≤ z ∧ z ≤ 8388608 - 4 * (c : Int)) ∧
  ∀ H', Ex H H' → Q (.int (hgt L.bs (L.es.take c) x z)) H'
theorem b_height_by (n k : Nat) (hn : n ≤ 20) (hk : 3 ≤ k) (T : Txt K w mg D) (F : MethAt K D.C "height_by" "Land.height_by" s_Land_height_by) (G_overlays : Has P w K mg base 1 "overlays" spOver []) (G_has_point : Has P w K mg base 1 "has_point" (spHasPt K) []) (G_run_steps : Has P w K mg base 3 "run_steps" spRun []) (G_range_after : Has P w K mg base 1 "range_after" spAfter [])
    {spF : Sp} (hs : ∀ m, n = m + 1 → ∀ vs H Q E, spHB D m vs H Q E → spF vs H Q E) (G_height_by : HasM P w K mg base k D.C "height_by" spF) : HasM P w K mg base (k + 1) D.C "height_by" (spHB D n) := by
  refine hasM_of F sc_Land_height_by (fun _ _ _ _ _ _ us hl => match us, hl with | [_, _, _, _], _ => rfl) ?_ ?_
  · rintro _ _ _ _ ⟨_, _, _, _, _, rfl, _⟩; rfl
  · rintro f cdv A outer s0 H vs Q E hr ⟨a, L, x, z, c, rfl, hL, hcn, hcl, hb, kk⟩
    refine ⟨_, pss_cons (ps_set (i := 4) sc_Land_height_by.nd rfl (Or.inl rfl) (pv 3))
      (pss_cons (ps_while PassesOwn.never (PW.pt (pw_and (pt_cmpR op_gt (pv 4) (pe_int) (nomark _)) (pw_and1 (pt_not (PW.pt (pw_and (pt_val (pe_c G_overlays (hr.mono (by omega)) (by rfl) (pa_cons (pe_ix ix_tup (pe_ix ix_tup (pe_fld (pv 0) rfl) (pe_op op_sub (pv 4) (pe_int)) (fun _ _ => rfl)) (pe_int) (fun _ _ => rfl)) (pa_nil)))) (pw_and1 (pt_val (pe_c G_has_point (hr.mono (by omega)) (by rfl) (pa_cons (pe_ix ix_tup (pe_ix ix_tup (pe_ix ix_tup (pe_fld (pv 0) rfl) (pe_op op_sub (pv 4) (pe_int)) (fun _ _ => rfl)) (pe_int) (fun _ _ => rfl)) (pe_int) (fun _ _ => rfl)) (pa_cons (pv 1) (pa_cons (pv 2) (pa_nil))))))))))))) (pss_one (ps_aug (i := 4) sc_Land_height_by.nd rfl (Or.inl rfl) (pe_int) ip_sub)))
      (pss_cons (ps_if (pt_cmpR op_eq (pv 4) (pe_int) (nomark _)) (pss_one (ps_set (i := 5) sc_Land_height_by.nd rfl (Or.inl rfl) (pe_c G_run_steps (hr.mono (by omega)) (by rfl) (pa_cons (pe_fld (pv 0) rfl) (pa_cons (pe_fld (pv 0) rfl) (pa_cons (pv 1) (pa_cons (pv 2) (pa_nil)))))))) (pss_cons (ps_set (i := 6) sc_Land_height_by.nd rfl (Or.inl rfl) (pe_ix ix_tup (pe_ix ix_tup (pe_fld (pv 0) rfl) (pe_op op_sub (pv 4) (pe_int)) (fun _ _ => rfl)) (pe_int) (fun _ _ => rfl)))
      (pss_one (ps_if (pt_cmpR op_eq (pe_ix ix_tup (pv 6) (pe_int) (fun _ _ => rfl)) (pe_str) (nomark _)) (pss_one (ps_set (i := 5) sc_Land_height_by.nd rfl (Or.inl rfl) (pe_ix ix_tup (pv 6) (pe_int) (fun _ _ => rfl)))) (pss_one (ps_if (pt_cmpR op_eq (pe_ix ix_tup (pv 6) (pe_int) (fun _ _ => rfl)) (pe_str) (nomark _)) (pss_never) (pss_one (ps_set (i := 5) sc_Land_height_by.nd rfl (Or.inl rfl) (pe_m G_height_by (hr.mono (by omega)) T.cl (pv 0) (pa_cons (pe_op op_add (pv 1) (pe_ix ix_tup (pv 6) (pe_int) (fun _ _ => rfl))) (pa_cons (pe_op op_add (pv 2) (pe_ix ix_tup (pv 6) (pe_int) (fun _ _ => rfl))) (pa_cons (pe_op op_sub (pv 4) (pe_int)) (pa_nil)))))))))))))
      (pss_cons (ps_for PassesOwn.never rfl (pi_tup (pe_slice sl_tupA (pe_fld (pv 0) rfl) (po_some (pv 4)) (po_some (pv 3)))) (pg_tup rfl (pgs_cons (pg_name (i := 7) sc_Land_height_by.nd rfl (Or.inl rfl)) (pgs_cons (pg_name (i := 6) sc_Land_height_by.nd rfl (Or.inl rfl)) (pgs_nil)))) (pss_one (ps_if (pt_val (pe_c G_has_point (hr.mono (by omega)) (by rfl) (pa_cons (pe_ix ix_tup (pv 6) (pe_int) (fun _ _ => rfl)) (pa_cons (pv 1) (pa_cons (pv 2) (pa_nil)))))) (pss_one (ps_set (i := 5) sc_Land_height_by.nd rfl (Or.inl rfl) (pe_ix ix_tup (pe_c G_range_after (hr.mono (by omega)) (by rfl) (pa_cons (pv 6) (pa_cons (pv 5) (pa_cons (pv 5) (pa_nil))))) (pe_int) (fun _ _ => rfl)))) (pss_nil))))
      (pss_one (ps_ret (pv 5)))))), ?_⟩
    have hcl1 := T.cl
    have hn1 := T.n_laid
    have hn2 := T.n_code
    have hn3 := T.n_grain
    have hins := hL.ins
    obtain ⟨us, hlt, hus⟩ := hL.laid
    have hul := pair_len hus
    have el := hL.elen
    walk_at "rd"
    refine while_x (fun σ H' => Here (∃ m, Ex H H' ∧ m ≤ c ∧ σ = [some (.ref a), some (.int x), some (.int z), some (.int c), some (.int (m : Nat)), none, none, none] ∧ (∀ i e, m ≤ i → i < c → L.es[i]? = some e → cov e x z = false) ∧ (m = 0 ∨ ∃ j e, m = j + 1 ∧ L.es[j]? = some e ∧ cov e x z = true)))
      (fun m σ H' => Here (Ex H H' ∧ m ≤ c ∧ σ = [some (.ref a), some (.int x), some (.int z), some (.int c), some (.int (m : Nat)), none, none, none] ∧ ∀ i e, m ≤ i → i < c → L.es[i]? = some e → cov e x z = false)) ⟨c, .it ⟨Ex.rfl' H, Nat.le_refl _, rfl, fun i e h1 h2 => absurd h1 (by omega)⟩⟩ ?_ ?_
    · intro σ H' hh
      obtain ⟨m, he, hmc, rfl, hno, hit⟩ := hh.get
      dsimp only
      refine seq_x (fun σ H'' => Here (Ex H H'' ∧ ∃ r6, σ = [some (.ref a), some (.int x), some (.int z), some (.int c), some (.int (m : Nat)), some (.int (hgt L.bs (L.es.take m) x z)), r6, none])) ?_ ?_
      · intro σ H1 hh1
        obtain ⟨he1, r6, rfl⟩ := hh1.get
        have hins1 := in_ex he1 hins
        walk_at "rd"
        have hlt1 := tp_ex he1 hlt
        refine ⟨L.laid, us, rfl, tp_sq hlt1, fun hw => ?_, fun _ q hq => ?_⟩
        · rw [HT.sIx_nat, HT.sIx_nat] at hw
          have hm0 : m = 0 := by omega
          have hc0 : c = us.length := by omega
          have hxs : ∀ (i : Nat) (u : V), us[i]? = some u → m + i < c ∧ us[m + i]? = some u := fun i u h => by
            rw [hm0, Nat.zero_add]
            exact ⟨by rw [hc0]; exact (List.getElem?_eq_some_iff.mp h).1, h⟩
          have hxl : m + us.length = c := by omega
          walk_at "rd"
          refine ⟨⟨_, tp_sq hlt1⟩, ?_⟩
          refine for_tup (K := K) (a := L.laid) (xs := us) (fun i σ H'' => Here (Ex H H'' ∧ SqT K H'' L.laid (us) ∧ ∃ r6 r7, σ = [some (.ref a), some (.int x), some (.int z), some (.int c), some (.int (m : Nat)), some (.int (hgt L.bs (L.es.take (m + i)) x z)), r6, r7])) (.it ⟨he1, tp_sq hlt1, _, _, rfl⟩) (fun i σ H'' _ hh => hh.get.2.1) ?_ ?_
          · intro i u σ H'' hu hh
            obtain ⟨he2, hsq2, r6, r7, rfl⟩ := hh.get
            obtain ⟨hic, huj⟩ := hxs i u hu
            obtain ⟨e, hej, q, kk', w', rfl, hq, hw'⟩ := pair_get hus huj
            have hq2 := tp_ex he2 hq
            have hw2 := hw'.mono (.ex he2)
            obtain ⟨pe, qe, re, rfl, hqe, hpe⟩ := hw2.gen
            have et : L.es.take (m + (i + 1)) = L.es.take (m + i) ++ [e] := by rw [← Nat.add_assoc]; exact take_snoc hej
            have hc0 := hno (m + i) e (Nat.le_add_right ..) hic hej
            walk_at "rd"
            refine ⟨qe, e.a, e.b, e.c, e.d, x, z, rfl, tp_sq hqe, ?_⟩
            cases hin : inBx e.a e.b e.c e.d x z with
            | false =>
              walk_at "rd"
              refine .it ⟨he2, hsq2, some (.ref pe), some (.int kk'), ?_⟩
              rw [et, hgt_snoc, hin]
              rfl
            | true =>
              obtain ⟨o1, o2, o3⟩ := ov_ne (cov_no hc0 hin)
              walk_at "rd"
              refine ⟨_, e, _, _, rfl, hw2, o3, fun t H3 e3 ht => ?_⟩
              walk_at "rd"
              refine .it ⟨he2.tr e3, sq_ex e3 hsq2, some (.ref pe), some (.int kk'), ?_⟩
              rw [et, hgt_snoc, hin, if_pos rfl, if_neg o1, if_neg o3]
              rfl
          · intro σ H'' hh
            obtain ⟨he2, hsq2, r6, r7, rfl⟩ := hh.get
            walk_at "rd"
            refine qi (kk H'' he2) ?_
            rw [show m + (us).length = c from hxl]
        · rw [cut_eq hmc (by omega)]
          have hxs : ∀ (i : Nat) (u : V), ((us.drop m).take (c - m))[i]? = some u → m + i < c ∧ us[m + i]? = some u := fun i u h => by
            have h1 := (List.getElem?_eq_some_iff.mp h).1
            rw [List.length_take, List.length_drop] at h1
            rw [List.getElem?_take_of_lt (by omega), List.getElem?_drop] at h
            exact ⟨by omega, h⟩
          have hxl : m + ((us.drop m).take (c - m)).length = c := by rw [List.length_take, List.length_drop]; omega
          walk_at "rd"
          refine ⟨⟨_, sq_up⟩, ?_⟩
          refine for_tup (K := K) (a := q) (xs := (us.drop m).take (c - m)) (fun i σ H'' => Here (Ex H H'' ∧ SqT K H'' q ((us.drop m).take (c - m)) ∧ ∃ r6 r7, σ = [some (.ref a), some (.int x), some (.int z), some (.int c), some (.int (m : Nat)), some (.int (hgt L.bs (L.es.take (m + i)) x z)), r6, r7])) (.it ⟨Ex.nw he1 hq, sq_up, _, _, rfl⟩) (fun i σ H'' _ hh => hh.get.2.1) ?_ ?_
          · intro i u σ H'' hu hh
            obtain ⟨he2, hsq2, r6, r7, rfl⟩ := hh.get
            obtain ⟨hic, huj⟩ := hxs i u hu
            obtain ⟨e, hej, q, kk', w', rfl, hq, hw'⟩ := pair_get hus huj
            have hq2 := tp_ex he2 hq
            have hw2 := hw'.mono (.ex he2)
            obtain ⟨pe, qe, re, rfl, hqe, hpe⟩ := hw2.gen
            have et : L.es.take (m + (i + 1)) = L.es.take (m + i) ++ [e] := by rw [← Nat.add_assoc]; exact take_snoc hej
            have hc0 := hno (m + i) e (Nat.le_add_right ..) hic hej
            walk_at "rd"
            refine ⟨qe, e.a, e.b, e.c, e.d, x, z, rfl, tp_sq hqe, ?_⟩
            cases hin : inBx e.a e.b e.c e.d x z with
            | false =>
              walk_at "rd"
              refine .it ⟨he2, hsq2, some (.ref pe), some (.int kk'), ?_⟩
              rw [et, hgt_snoc, hin]
              rfl
            | true =>
              obtain ⟨o1, o2, o3⟩ := ov_ne (cov_no hc0 hin)
              walk_at "rd"
              refine ⟨_, e, _, _, rfl, hw2, o3, fun t H3 e3 ht => ?_⟩
              walk_at "rd"
              refine .it ⟨he2.tr e3, sq_ex e3 hsq2, some (.ref pe), some (.int kk'), ?_⟩
              rw [et, hgt_snoc, hin, if_pos rfl, if_neg o1, if_neg o3]
              rfl
          · intro σ H'' hh
            obtain ⟨he2, hsq2, r6, r7, rfl⟩ := hh.get
            walk_at "rd"
            refine qi (kk H'' he2) ?_
            rw [show m + ((us.drop m).take (c - m)).length = c from hxl]
      · intro nx hnx
        have hins1 := in_ex he hins
        have hlt1 := tp_ex he hlt
        rcases hit with rfl | ⟨j, e, rfl, hej, hcov⟩
        · walk_at "rd"
          refine ⟨L.code, L.fs, L.g, x, z, rfl, hL.code.ex he, hL.cok, by omega, fun H1 e1 => ?_⟩
          walk_at "rd"
          exact hnx _ _ (.it ⟨he.tr e1, _, rfl⟩)
        · obtain ⟨u, hu⟩ : ∃ u, us[j]? = some u := ⟨_, List.getElem?_eq_getElem (by omega)⟩
          obtain ⟨e', hej', q, kk', w', rfl, hq, hw'⟩ := pair_get hus hu
          obtain rfl : e = e' := by rw [hej] at hej'; exact Option.some.inj hej'
          have hq' := tp_ex he hq
          obtain ⟨pe, qe, rfl, hqe, hpe⟩ := hw'.mono (.ex he)
          have ej : ((j + 1 : Nat) : Int) - 1 = (j : Int) := by omega
          have hu' : atI us (((j + 1 : Nat) : Int) - 1) = some (.ref q) := by rw [ej]; exact atI_nat hu
          have et : L.es.take (j + 1) = L.es.take j ++ [e] := take_snoc hej
          have hin : inBx e.a e.b e.c e.d x z = true := by
            unfold cov at hcov
            exact (Bool.and_eq_true_iff.mp hcov).2
          have hov : isOv e.w = true := by
            unfold cov at hcov
            exact (Bool.and_eq_true_iff.mp hcov).1
          have hval : hgt L.bs (L.es.take (j + 1)) x z = if e.w = "set" then e.n else if e.w = "copy" then hgt L.bs (L.es.take j) (x + e.n) (z + e.m) else ap1 e (hgt L.bs (L.es.take j) x z) := by
            rw [et, hgt_snoc, hin, if_pos rfl]
          rcases hpe with ⟨hw, hpe⟩ | ⟨hw, hpe⟩
          · have hset : e.w = "set" := by
              generalize e.w = y at hw hov
              cases hw
              · rfl
              · exact absurd hov (by decide)
              · exact absurd hov (by decide)
              · exact absurd hov (by decide)
            rw [hset] at hpe
            walk_at "rd"
            refine hnx _ _ (.it ⟨he, some (.ref pe), ?_⟩)
            rw [hval, if_pos hset]
            rfl
          · have hok := (hL.eok e (List.mem_of_getElem? hej)).2.2 hw
            obtain ⟨n', rfl⟩ : ∃ n', n = n' + 1 := ⟨n - 1, by omega⟩
            walk_at "rd"
            refine hs n' rfl _ _ _ _ ⟨a, L, x + e.n, z + e.m, j, (by show [V.ref a, V.int (x + e.n), V.int (z + e.m), V.int (((j + 1 : Nat) : Int) - 1)] = _; rw [ej]), hL.ex he, by omega, by omega, by omega, fun H1 e1 => ?_⟩
            refine hnx _ _ (.it ⟨he.tr e1, some (.ref pe), ?_⟩)
            rw [hval, hw, if_neg (by decide), if_pos rfl]
            rfl
    · intro nx hrest m σ H' hh
      obtain ⟨he, hmc, rfl, hno⟩ := hh.get
      cases m with
      | zero =>
        walk_at "rd"
        exact hrest _ _ (.it ⟨0, he, hmc, rfl, hno, .inl rfl⟩)
      | succ j =>
        obtain ⟨u, hu⟩ : ∃ u, us[j]? = some u := ⟨_, List.getElem?_eq_getElem (by omega)⟩
        obtain ⟨e, hej, q, kk', w', rfl, hq, hw'⟩ := pair_get hus hu
        have hlt' := tp_ex he hlt
        have hq' := tp_ex he hq
        have hw2 := hw'.mono (.ex he)
        obtain ⟨pe, qe, re, rfl, hqe, hpe⟩ := hw2.gen
        have ej : ((j + 1 : Nat) : Int) - 1 = (j : Int) := by omega
        have hu' : atI us (((j + 1 : Nat) : Int) - 1) = some (.ref q) := by rw [ej]; exact atI_nat hu
        have stay : ∀ H2, Ex H H2 → cov e x z = false → ∃ N : L2.St → Hp → Prop, (∀ σ' H', N σ' H' → ∃ m', m' < j + 1 ∧ Here (Ex H H' ∧ m' ≤ c ∧ σ' = [some (.ref a), some (.int x), some (.int z), some (.int c), some (.int (m' : Nat)), none, none, none] ∧ ∀ i e, m' ≤ i → i < c → L.es[i]? = some e → cov e x z = false)) ∧ N [some (.ref a), some (.int x), some (.int z), some (.int c), some (.int (((j + 1 : Nat) : Int) - 1)), none, none, none] H2 := by
          intro H2 e2 hc
          refine ⟨fun σ' H' => σ' = [some (.ref a), some (.int x), some (.int z), some (.int c), some (.int (j : Nat)), none, none, none] ∧ H' = H2, ?_, by rw [ej], rfl⟩
          rintro σ' H' ⟨rfl, rfl⟩
          refine ⟨j, Nat.lt_succ_self _, .it ⟨e2, by omega, rfl, fun i e' h1 h2 h3 => ?_⟩⟩
          by_cases c1 : i = j
          · rw [c1, hej] at h3; cases h3; exact hc
          · exact hno i e' (by omega) h2 h3
        walk_at "rd"
        refine ⟨_, e, rfl, hw2, fun H1 e1 => ?_⟩
        have ee : Ex H H1 := he.tr e1
        have hpe1 := tp_ex e1 hpe
        have hq1 := tp_ex e1 hq'
        have hlt1 := tp_ex e1 hlt'
        cases hov : isOv e.w with
        | false =>
          obtain ⟨N, h1, h2⟩ := stay H1 ee (by show (isOv e.w && _) = _; rw [hov]; rfl)
          walk_at "rd"
          refine ⟨N, h1, ?_⟩
          walk_at "rd"
          exact h2
        | true =>
          walk_at "rd"
          refine ⟨qe, e.a, e.b, e.c, e.d, x, z, rfl, tp_sq (tp_ex e1 hqe), ?_⟩
          cases hin : inBx e.a e.b e.c e.d x z with
          | false =>
            obtain ⟨N, h1, h2⟩ := stay H1 ee (by show (isOv e.w && _) = _; rw [hov, hin]; rfl)
            walk_at "rd"
            refine ⟨N, h1, ?_⟩
            walk_at "rd"
            exact h2
          | true =>
            walk_at "rd"
            exact hrest _ _ (.it ⟨j + 1, ee, hmc, rfl, hno, .inr ⟨j, e, rfl, hej, by show (isOv e.w && _) = _; rw [hov, hin]; rfl⟩⟩)
theorem h_height_by (T : Txt K w mg D) (F : MethAt K D.C "height_by" "Land.height_by" s_Land_height_by) (G_overlays : Has P w K mg base 1 "overlays" spOver []) (G_has_point : Has P w K mg base 1 "has_point" (spHasPt K) []) (G_run_steps : Has P w K mg base 3 "run_steps" spRun []) (G_range_after : Has P w K mg base 1 "range_after" spAfter []) :
    ∀ n, n ≤ 20 → HasM P w K mg base (n + 4) D.C "height_by" (spHB D n)
  | 0, hn => b_height_by 0 3 hn (by decide) T F G_overlays G_has_point G_run_steps G_range_after (fun m h => nomatch h) (hasM_no F sc_Land_height_by (fun _ _ _ _ _ _ us hl => match us, hl with | [_, _, _, _], _ => rfl))
  | n + 1, hn => b_height_by (n + 1) (n + 4) hn (by omega) T F G_overlays G_has_point G_run_steps G_range_after (fun m h vs H Q E q => by cases h; exact q) (h_height_by T F G_overlays G_has_point G_run_steps G_range_after n (by omega))
/-! ### height_at, height -/
def spHAt (D : Ad) : Sp := fun vs H Q _ => ∃ (a : Addr) (L : Lnd) (x z : Int), vs = [.ref a, .int x, .int z] ∧ LandAt D H a L ∧ (-1000000 ≤ x ∧ x ≤ 1000000 ∧ -1000000 ≤ z ∧ z ≤ 1000000) ∧ ∀ H', Ex H H' → Q (.int (L.h x z)) H'
theorem h_height_at (T : Txt K w mg D) (F : MethAt K D.C "height_at" "Land.height_at" s_Land_height_at) (G_height_by : HasM P w K mg base 24 D.C "height_by" (spHB D 20)) : HasM P w K mg base 25 D.C "height_at" (spHAt D) := by
  refine hasM_of F sc_Land_height_at (fun _ _ _ _ _ _ us hl => match us, hl with | [_, _, _], _ => rfl) ?_ ?_
  · rintro _ _ _ _ ⟨_, _, _, _, rfl, _⟩; rfl
  · rintro f cdv A outer s0 H vs Q E hr ⟨a, L, x, z, rfl, hL, hb, kk⟩
    refine ⟨_, pss_one (ps_ret (pe_m G_height_by (hr.mono (by decide)) T.cl (pv 0) (pa_cons (pv 1) (pa_cons (pv 2) (pa_cons (pe_callB call_len_seq (by rfl) T.f_len bt_len (pa_cons (pe_fld (pv 0) rfl) (pa_nil))) (pa_nil)))))), ?_⟩
    have hcl1 := T.cl
    have hn1 := T.n_laid
    have hins := hL.ins
    obtain ⟨us, hlt, hus⟩ := hL.laid
    have hul := pair_len hus
    have el := hL.elen
    walk_at "rd"
    refine ⟨a, L, x, z, us.length, rfl, hL, by omega, by omega, by omega, fun H1 e1 => ?_⟩
    refine qi (kk H1 e1) ?_
    show hgt L.bs L.es x z = hgt L.bs (L.es.take us.length) x z
    rw [List.take_of_length_le (by omega)]
theorem h_height (T : Txt K w mg D) (F : MethAt K D.C "height" "Land.height" s_Land_height) (G_must_point : Has P w K mg base 1 "must_point" spPt0 []) (G_height_at : HasM P w K mg base 25 D.C "height_at" (spHAt D)) : HasM P w K mg base 26 D.C "height" (spHAt D) := by
  refine hasM_of F sc_Land_height (fun _ _ _ _ _ _ us hl => match us, hl with | [_, _, _], _ => rfl) ?_ ?_
  · rintro _ _ _ _ ⟨_, _, _, _, rfl, _⟩; rfl
  · rintro f cdv A outer s0 H vs Q E hr ⟨a, L, x, z, rfl, hL, hb, kk⟩
    refine ⟨_, pss_cons (ps_expr (pe_c G_must_point (hr.mono (by decide)) (by rfl) (pa_cons (pv 1) (pa_cons (pv 2) (pa_nil)))))
      (pss_one (ps_ret (pe_m G_height_at (hr.mono (by decide)) T.cl (pv 0) (pa_cons (pv 1) (pa_cons (pv 2) (pa_nil)))))), ?_⟩
    have hins := hL.ins
    walk_at "rd"
    exact ⟨a, L, x, z, rfl, hL, hb, kk⟩

end Kw
set_option Elab.async false
set_option linter.all false
set_option maxRecDepth 100000
set_option maxHeartbeats 2000000
namespace Kw
open PySem PySem.Spec PyProof.Rows L2
local macro_rules | `(tactic| walk_at "in") => `(tactic| repeat (first | assumption | refine in_new (by assumption) ?_ | refine in_ex (by assumption) ?_))
local macro_rules | `(tactic| walk_at "lk") => `(tactic| first | exact lk_laid _ | exact lk_code _ | exact lk_grain _ | exact lk_past _ | exact lk_future _ | exact lk_shelf _ | exact lk_last _)
local macro_rules | `(tactic| walk_at "tp") => `(tactic| repeat (first | assumption | exact tp_up | refine tp_new (by assumption) ?_ | refine tp_lst (by assumption) ?_ | refine tp_ex (by assumption) ?_ | refine tp_mv (by assumption) ?_))
local macro_rules | `(tactic| walk_at "sq") => `(tactic| repeat (first | assumption | exact sq_up | exact sl_up | exact tp_sq (by assumption) | exact Evl.sq_of (by assumption) | refine sq_new (by assumption) ?_ | refine sl_new (by assumption) ?_ | refine sq_lst (by assumption) ?_ | refine sq_ex (by assumption) ?_ | refine sl_ex (by assumption) ?_ | refine sq_mv (by assumption) ?_))
local macro_rules | `(tactic| walk_at "ex") => `(tactic| repeat (first | assumption | exact Ex.rfl' _ | refine Ex.nw ?_ (by assumption) | refine Ex.tr ?_ (by assumption)))
local macro_rules | `(tactic| walk_at "cond") => `(tactic| first | decide | exact Or.inl ⟨by omega, by omega⟩ | exact Or.inr ⟨by omega, by omega⟩ | exact ⟨by omega, by omega⟩ | omega)
local macro_rules | `(tactic| walk_at "rd1") => `(tactic| first
  | refine ⟨_, rfl, ?_⟩
  | refine ⟨_, _, rfl, rfl, ?_⟩
  | refine ⟨_, _, rfl, ?_⟩
  | refine ⟨rfl, ?_⟩
  | refine ⟨_, _, _, rfl, ?_⟩
  | (refine' ⟨_, _, _, _, rfl, rfl, ?h, ?ha, ?q⟩; (case h => walk_at "sq"); (case ha => first | assumption | rfl | exact at_c0 _ _ | exact at_c1 _ _ _ | exact at_c2 _ _ _ _ | (refine at_vals ?_; omega) | exact atI_nat (by assumption)))
  | refine ⟨_, _, _, _, rfl, ?_⟩
  | refine ⟨_, _, _, _, _, rfl, ?_⟩
  | (refine' ⟨_, _, rfl, ?h, ?ha, ?q⟩; (case h => walk_at "sq"); (case ha => first | rfl | exact Nat.le_of_ble_eq_true rfl))
  | refine Or.inr ⟨_, rfl, ?_⟩
  | (refine' ⟨_, _, rfl, Or.inr ?h, ?q⟩; (case h => walk_at "sq"))
  | (refine' ⟨_, _, rfl, Or.inl ?h, ?q⟩; (case h => walk_at "sq"))
  | refine ⟨_, _, _, _, _, rfl, .ty _, .base (.int _), kit_ty kit_ii, ?_⟩
  | refine ⟨_, _, _, _, _, rfl, .ty _, .base (.int _), kit_ty kit_ib, ?_⟩
  | refine ⟨_, _, _, _, _, rfl, .ty _, .base (.str _), kit_ty kit_ss, ?_⟩
  | refine ⟨_, _, _, _, _, rfl, .ty _, .base (.tup (by assumption)), kit_ty kit_tt, ?_⟩
  | with_reducible refine iteT ?_
  | with_reducible refine iteF ?_
  | refine ite_yes (by first | decide | omega) ?_
  | refine ite_no (by first | decide | omega) ?_
  | refine ite_no (fun z => absurd (V.str.inj z) (by assumption)) ?_
  | refine ite_no (fun z => absurd (V.int.inj z) (by omega)) ?_
  | refine ite_yes (congrArg V.int (by omega)) ?_
  | refine ite_nyes (by first | decide | omega) ?_
  | refine ite_nno (by first | decide | omega) ?_
  | (refine' And.intro (Or.inl ⟨rfl, _, ?h⟩) ?q; (case h => first | exact SqL.of (by first | assumption | exact upd_same) | walk_at "sq"))
  | (refine' And.intro ?h ?q; (case h => exact Evl.sz_of (Nat.le_of_ble_eq_true rfl)))
  | refine fun p (hp : (_ : Hp) p = none) => ?_
  | (refine' ⟨_, _, rfl, Or.inr ?h, rfl, rfl, ?q⟩; (case h => walk_at "sq"))
  | (refine' ⟨_, _, rfl, Or.inl ?h, rfl, rfl, ?q⟩; (case h => walk_at "sq"))
  | (refine' ⟨_, _, _, _, _, rfl, ?h, ?c, ?n, ?l, ?q⟩; (case h => walk_at "in"); (case c => assumption); (case n => assumption); (case l => walk_at "lk"))
  | (refine' ⟨_, _, _, rfl, ?h, ?l, ?q⟩; (case h => walk_at "in"); (case l => exact lk_none (by decide) _))
  | (refine' And.intro ?h ?q; (case h => walk_at "cond")))
local macro_rules | `(tactic| walk_at "rd") => `(tactic| repeat walk_at "rd1")
local macro_rules | `(tactic| walk_at "rs") => `(tactic| repeat' (first | walk_at "rd1" | refine ite2d (fun h => ?_) (fun h => ?_) | refine ite2n (fun h => ?_) (fun h => ?_) | refine ite2 (fun h => ?_) (fun h => ?_)))
local macro_rules | `(tactic| walk_at "pu") => `(tactic| repeat (first | assumption | refine purse_new ?_ (by assumption)))
local macro_rules | `(tactic| walk_at "mv") => `(tactic| repeat (first | assumption | exact Mv.rf _ _ | refine Mv.nw ?_ (by assumption) | refine Mv.tr ?_ (by assumption)))

variable {P : Program} {w : World} {K : PySem.W.Frag} {mg : Str → Option Value} {base : Heap} {D : Ad}
/-! ### change, noted, put, edit, back -/
theorem pf_laid (L : Lnd) (t : Addr) : putF "laid" (.ref t) (lf L) = lf { L with laid := t } := by
  unfold lf
  simp (config := { decide := true }) [putF]
theorem pf_last (L : Lnd) (i : Int) : putF "last" (.int i) (lf L) = lf { L with last := i } := by
  unfold lf
  simp (config := { decide := true }) [putF]
theorem pf_fut (L : Lnd) (t : Addr) : putF "future" (.ref t) (lf L) = lf { L with fut := t } := by
  unfold lf
  simp (config := { decide := true }) [putF]
def spChange (D : Ad) : Sp := fun vs H Q _ => ∃ (a : Addr) (L : Lnd) (t : Addr), vs = [.ref a, .ref t] ∧ H a = some (.ins D.C L.dx (lf L)) ∧ H L.shelf = some (.dK []) ∧ Q .non (upd (upd H a (.ins D.C L.dx (lf { L with laid := t }))) L.shelf (.dK []))
theorem h_change (T : Txt K w mg D) (F : MethAt K D.C "change" "Land.change" s_Land_change) : HasM P w K mg base 1 D.C "change" (spChange D) := by
  refine hasM_of F sc_Land_change (fun _ _ _ _ _ _ us hl => match us, hl with | [_, _], _ => rfl) ?_ ?_
  · rintro _ _ _ _ ⟨_, _, _, rfl, _⟩; rfl
  · rintro f cdv A outer s0 H vs Q E hr ⟨a, L, t, rfl, hL, hsh, kk⟩
    refine ⟨_, pss_cons (ps_fld (pv 0) (pv 1) rfl)
      (pss_one (ps_expr (pe_dclear (pe_fld (pv 0) rfl)))), ?_⟩
    have hcl1 := T.cl
    have hn1 := T.n_laid
    have hn2 := T.n_shelf
    have hne : a ≠ L.shelf := fun e => by rw [e] at hL; cases hL.symm.trans hsh
    refine ⟨_, rfl, _, rfl, a, D.C, L.dx, _, rfl, hL, hcl1, hn1, (by show 10 < 1000; decide), ?_⟩
    rw [pf_laid]
    have h1 : (upd H a (.ins D.C L.dx (lf { L with laid := t }))) a = some (.ins D.C L.dx (lf { L with laid := t })) := upd_same
    have h2 : (upd H a (.ins D.C L.dx (lf { L with laid := t }))) L.shelf = some (.dK []) := by rw [upd_ne hne.symm]; exact hsh
    walk_at "rd"
    exact ⟨Or.inr (Or.inr (Or.inl ⟨rfl, .inl ⟨[], h2⟩⟩)), L.shelf, [], rfl, rfl, h2, kk⟩
/-- all stands but what is at S -/
def Frs (S : List Addr) (H H' : Hp) : Prop := ∀ b o, H b = some o → b ∉ S → H' b = some o
def spNoted (D : Ad) : Sp := fun vs H Q _ => ∃ (a : Addr) (L : Lnd) (t : Addr) (us : List V), vs = [.ref a, .ref t] ∧ H a = some (.ins D.C L.dx (lf L)) ∧ H L.past = some (.lst us) ∧ us.length ≤ 20 ∧
  ∀ (q : Addr) (H' : Hp), H q = none → H' = upd (upd (upd H L.past (.lst (us ++ [.ref t]))) q (.lst [])) a (.ins D.C L.dx (lf { L with fut := q })) → Q .non H'
theorem h_noted (T : Txt K w mg D) (F : MethAt K D.C "noted" "Land.noted" s_Land_noted) : HasM P w K mg base 1 D.C "noted" (spNoted D) := by
  refine hasM_of F sc_Land_noted (fun _ _ _ _ _ _ us hl => match us, hl with | [_, _], _ => rfl) ?_ ?_
  · rintro _ _ _ _ ⟨_, _, _, _, rfl, _⟩; rfl
  · rintro f cdv A outer s0 H vs Q E hr ⟨a, L, t, us, rfl, hL, hp, hl, kk⟩
    refine ⟨_, pss_cons (ps_expr (pe_bm PySem.F.plainAttrs_list PySem.F.slot_list_append PySem.F.type_list_append mt_append (pe_fld (pv 0) rfl) (pa_cons (pv 1) (pa_nil))))
      (pss_one (ps_fld (pv 0) (pe_lst (pa_nil)) rfl)), ?_⟩
    have hcl1 := T.cl
    have hn1 := T.n_past
    have hn2 := T.n_future
    have hne : a ≠ L.past := fun e => by rw [e] at hL; cases hL.symm.trans hp
    have h1 : (upd H L.past (.lst (us ++ [.ref t]))) a = some (.ins D.C L.dx (lf L)) := by rw [upd_ne hne]; exact hL
    walk_at "rd"
    refine ⟨L.past, us, _, rfl, rfl, hp, Evl.sz_lt (by omega), ?_⟩
    walk_at "rd"
    rename_i q hq
    have nqa : a ≠ q := ne_of_none h1 hq
    have nqp : L.past ≠ q := ne_of_none upd_same hq
    refine ⟨a, D.C, L.dx, _, rfl, (by rw [upd_ne nqa]; exact h1), hcl1, hn2, (by show 10 < 1000; decide), ?_⟩
    rw [pf_fut]
    exact kk q _ (by rw [upd_ne nqp.symm] at hq; exact hq) rfl
theorem tst_ins {H : Hp} {a C dx : Addr} {fs : List (Str × V)} {o : HO} (h : H a = some (.ins C dx fs)) : Tst H (upd H a o) := fun p xs hp => by
  have : p ≠ a := fun e => by subst e; cases h.symm.trans hp
  show (upd H a o) p = _
  rw [upd_ne this]; exact hp
theorem tst_dK {H : Hp} {a : Addr} {kvs : List (Key × V)} {o : HO} (h : H a = some (.dK kvs)) : Tst H (upd H a o) := fun p xs hp => by
  have : p ≠ a := fun e => by subst e; cases h.symm.trans hp
  show (upd H a o) p = _
  rw [upd_ne this]; exact hp
theorem Tst.tr {H H1 H2 : Hp} (a : Tst H H1) (b : Tst H1 H2) : Tst H H2 := fun p xs h => b p xs (a p xs h)
def spPutE (D : Ad) : Sp := fun vs H Q _ => ∃ (a : Addr) (L : Lnd) (v : V) (e : Ed), vs = [.ref a, v] ∧ LandAt D H a L ∧ EdP H v e ∧ EdOk e ∧ L.es.length < 20 ∧
  ∀ (k : V) (t : Addr) (H' : Hp), Frs [a, L.shelf] H H' → H' a = some (.ins D.C L.dx (lf { L with laid := t, last := L.last + 1, es := L.es ++ [e] })) → LaidAt H' t (L.es ++ [e]) → H' L.shelf = some (.dK []) → Q k H'
theorem h_putE (T : Txt K w mg D) (F : MethAt K D.C "put" "Land.put" s_Land_put) (G_must_edit : Has P w K mg base 2 "must_edit" spEdit0 []) (G_change : HasM P w K mg base 1 D.C "change" (spChange D)) : HasM P w K mg base 3 D.C "put" (spPutE D) := by
  refine hasM_of F sc_Land_put (fun _ _ _ _ _ _ us hl => match us, hl with | [_, _], _ => rfl) ?_ ?_
  · rintro _ _ _ _ ⟨_, _, _, _, rfl, _⟩; rfl
  · rintro f cdv A outer s0 H vs Q E hr ⟨a, L, v, e, rfl, hL, hv, hok, hlen, kk⟩
    refine ⟨_, pss_cons (ps_expr (pe_c G_must_edit (hr.mono (by decide)) (by rfl) (pa_cons (pv 1) (pa_nil))))
      (pss_cons (ps_if (pt_cmpR op_eq (pe_callB call_len_seq (by rfl) T.f_len bt_len (pa_cons (pe_fld (pv 0) rfl) (pa_nil))) (pe_gi T.MOST_EDITS (by rfl)) (nomark _)) (pss_never) (pss_nil))
      (pss_cons (ps_fldaug (pv 0) (pe_int) in_add)
      (pss_cons (ps_expr (pe_m G_change (hr.mono (by decide)) T.cl (pv 0) (pa_cons (pe_op op_catA (pe_fld (pv 0) rfl) (pe_tup (pa_cons (pe_tup (pa_cons (pe_fld (pv 0) rfl) (pa_cons (pv 1) (pa_nil)))) (pa_nil)))) (pa_nil))))
      (pss_one (ps_ret (pe_fld (pv 0) rfl)))))), ?_⟩
    have hcl1 := T.cl
    have hn1 := T.n_laid
    have hn2 := T.n_last
    obtain ⟨us, hlt, hus⟩ := hL.laid
    have hul := pair_len hus
    walk_at "rd"
    refine ⟨v, e, rfl, hv, hok, fun H1 e1 => ?_⟩
    have L1 := hL.ex e1
    have hins := L1.ins
    have hlt1 := tp_ex e1 hlt
    walk_at "rd"
    refine ⟨L.dx, lf L, hins, (by show 10 < 1000; decide), ?_⟩
    rw [pf_last]
    have hsa : L.shelf ≠ a := fun e => by have h1 := L1.shelf; rw [e] at h1; cases hins.symm.trans h1
    have hsh2 : (upd H1 a (.ins D.C L.dx (lf { L with last := L.last + 1 }))) L.shelf = some (.dK []) := by rw [upd_ne hsa]; exact L1.shelf
    have hins2 : (upd H1 a (.ins D.C L.dx (lf { L with last := L.last + 1 }))) a = some (.ins D.C L.dx (lf { L with last := L.last + 1 })) := upd_same
    have hlt2 : Tp (upd H1 a (.ins D.C L.dx (lf { L with last := L.last + 1 }))) L.laid us := tst_ins hins _ _ hlt1
    walk_at "rd"
    rename_i t0 ht0 t1 ht1
    have hi2 : (upd (upd (upd H1 a (.ins D.C L.dx (lf { L with last := L.last + 1 }))) t0 (.tup [.int (L.last + 1), v])) t1 (.tup [.ref t0])) a = some (.ins D.C L.dx (lf { L with last := L.last + 1 })) := by walk_at "in"
    refine ⟨L.laid, t1, us, [.ref t0], rfl, rfl, tp_sq (tp_new ht1 (tp_new ht0 hlt2)), sq_up, Evl.sz_of (by have := hL.elen; simp; omega), ?_, ?_, ?_⟩
    · intro hz
      walk_at "rd"
      have ei : (upd (upd (upd H1 a (.ins D.C L.dx (lf { L with last := L.last + 1 }))) t0 (.tup [.int (L.last + 1), v])) t1 (.tup [.ref t0])) a = some (.ins D.C L.dx (lf { L with last := L.last + 1 })) := by walk_at "in"
      have es : (upd (upd (upd H1 a (.ins D.C L.dx (lf { L with last := L.last + 1 }))) t0 (.tup [.int (L.last + 1), v])) t1 (.tup [.ref t0])) L.shelf = some (.dK []) := (Evl.Ex.trans (show Ex _ (upd (upd (upd H1 a (.ins D.C L.dx (lf { L with last := L.last + 1 }))) t0 (.tup [.int (L.last + 1), v])) t1 (.tup [.ref t0])) by walk_at "ex") (Ex.rfl' _)) _ _ hsh2
      refine ⟨a, { L with last := L.last + 1 }, t1, rfl, ei, es, ?_⟩
      have eT : Tst (upd (upd (upd H1 a (.ins D.C L.dx (lf { L with last := L.last + 1 }))) t0 (.tup [.int (L.last + 1), v])) t1 (.tup [.ref t0])) (upd (upd (upd (upd (upd H1 a (.ins D.C L.dx (lf { L with last := L.last + 1 }))) t0 (.tup [.int (L.last + 1), v])) t1 (.tup [.ref t0])) a (.ins D.C L.dx (lf { L with laid := t1, last := L.last + 1 }))) L.shelf (.dK [])) := (tst_ins ei).tr (tst_dK (by rw [upd_ne hsa]; exact es))
      have ef : (upd (upd (upd (upd (upd H1 a (.ins D.C L.dx (lf { L with last := L.last + 1 }))) t0 (.tup [.int (L.last + 1), v])) t1 (.tup [.ref t0])) a (.ins D.C L.dx (lf { L with laid := t1, last := L.last + 1 }))) L.shelf (.dK [])) a = some (.ins D.C L.dx (lf { L with laid := t1, last := L.last + 1 })) := by rw [upd_ne hsa.symm, upd_same]
      have eg : Ex (upd H1 a (.ins D.C L.dx (lf { L with last := L.last + 1 }))) (upd (upd (upd H1 a (.ins D.C L.dx (lf { L with last := L.last + 1 }))) t0 (.tup [.int (L.last + 1), v])) t1 (.tup [.ref t0])) := by walk_at "ex"
      walk_at "rd"
      refine kk _ t1 _ (fun b o hb hn => ?_) ef ?_ upd_same
      · have nb1 : b ≠ a := fun z => hn (by rw [z]; exact List.mem_cons_self ..)
        have nb2 : b ≠ L.shelf := fun z => hn (by rw [z]; exact List.mem_cons_of_mem _ (List.mem_singleton.mpr rfl))
        rw [upd_ne nb2, upd_ne nb1]
        exact eg b o (by rw [upd_ne nb1]; exact e1 b o hb)
      · refine ⟨us ++ [.ref t0], eT _ _ (by rw [hz]; exact tp_up), pair_snoc (laid_pair (fun p xs h => eT _ _ (tp_ex eg (tst_ins hins p xs (tp_ex e1 h)))) hus) ⟨t0, L.last + 1, v, rfl, eT _ _ (by walk_at "tp"), hv.mono (fun p xs h => eT _ _ (tp_ex eg (tst_ins hins p xs (tp_ex e1 h))))⟩⟩
    · intro _ z; cases z
    · intro _ _ t ht
      walk_at "rd"
      have ei : (upd (upd (upd (upd H1 a (.ins D.C L.dx (lf { L with last := L.last + 1 }))) t0 (.tup [.int (L.last + 1), v])) t1 (.tup [.ref t0])) t (.tup (us ++ [.ref t0]))) a = some (.ins D.C L.dx (lf { L with last := L.last + 1 })) := by walk_at "in"
      have es : (upd (upd (upd (upd H1 a (.ins D.C L.dx (lf { L with last := L.last + 1 }))) t0 (.tup [.int (L.last + 1), v])) t1 (.tup [.ref t0])) t (.tup (us ++ [.ref t0]))) L.shelf = some (.dK []) := (Evl.Ex.trans (show Ex _ (upd (upd (upd (upd H1 a (.ins D.C L.dx (lf { L with last := L.last + 1 }))) t0 (.tup [.int (L.last + 1), v])) t1 (.tup [.ref t0])) t (.tup (us ++ [.ref t0]))) by walk_at "ex") (Ex.rfl' _)) _ _ hsh2
      refine ⟨a, { L with last := L.last + 1 }, t, rfl, ei, es, ?_⟩
      have eT : Tst (upd (upd (upd (upd H1 a (.ins D.C L.dx (lf { L with last := L.last + 1 }))) t0 (.tup [.int (L.last + 1), v])) t1 (.tup [.ref t0])) t (.tup (us ++ [.ref t0]))) (upd (upd (upd (upd (upd (upd H1 a (.ins D.C L.dx (lf { L with last := L.last + 1 }))) t0 (.tup [.int (L.last + 1), v])) t1 (.tup [.ref t0])) t (.tup (us ++ [.ref t0]))) a (.ins D.C L.dx (lf { L with laid := t, last := L.last + 1 }))) L.shelf (.dK [])) := (tst_ins ei).tr (tst_dK (by rw [upd_ne hsa]; exact es))
      have ef : (upd (upd (upd (upd (upd (upd H1 a (.ins D.C L.dx (lf { L with last := L.last + 1 }))) t0 (.tup [.int (L.last + 1), v])) t1 (.tup [.ref t0])) t (.tup (us ++ [.ref t0]))) a (.ins D.C L.dx (lf { L with laid := t, last := L.last + 1 }))) L.shelf (.dK [])) a = some (.ins D.C L.dx (lf { L with laid := t, last := L.last + 1 })) := by rw [upd_ne hsa.symm, upd_same]
      have eg : Ex (upd H1 a (.ins D.C L.dx (lf { L with last := L.last + 1 }))) (upd (upd (upd (upd H1 a (.ins D.C L.dx (lf { L with last := L.last + 1 }))) t0 (.tup [.int (L.last + 1), v])) t1 (.tup [.ref t0])) t (.tup (us ++ [.ref t0]))) := by walk_at "ex"
      walk_at "rd"
      refine kk _ t _ (fun b o hb hn => ?_) ef ?_ upd_same
      · have nb1 : b ≠ a := fun z => hn (by rw [z]; exact List.mem_cons_self ..)
        have nb2 : b ≠ L.shelf := fun z => hn (by rw [z]; exact List.mem_cons_of_mem _ (List.mem_singleton.mpr rfl))
        rw [upd_ne nb2, upd_ne nb1]
        exact eg b o (by rw [upd_ne nb1]; exact e1 b o hb)
      · refine ⟨us ++ [.ref t0], eT _ _ (tp_up), pair_snoc (laid_pair (fun p xs h => eT _ _ (tp_ex eg (tst_ins hins p xs (tp_ex e1 h)))) hus) ⟨t0, L.last + 1, v, rfl, eT _ _ (by walk_at "tp"), hv.mono (fun p xs h => eT _ _ (tp_ex eg (tst_ins hins p xs (tp_ex e1 h))))⟩⟩

end Kw
set_option Elab.async false
set_option linter.all false
set_option maxRecDepth 100000
set_option maxHeartbeats 2000000
namespace Kw
open PySem PySem.Spec PyProof.Rows L2
local macro_rules | `(tactic| walk_at "in") => `(tactic| repeat (first | assumption | refine in_new (by assumption) ?_ | refine in_ex (by assumption) ?_))
local macro_rules | `(tactic| walk_at "lk") => `(tactic| first | exact lk_laid _ | exact lk_code _ | exact lk_grain _ | exact lk_past _ | exact lk_future _ | exact lk_shelf _ | exact lk_last _)
local macro_rules | `(tactic| walk_at "tp") => `(tactic| repeat (first | assumption | exact tp_up | refine tp_new (by assumption) ?_ | refine tp_lst (by assumption) ?_ | refine tp_ex (by assumption) ?_ | refine tp_mv (by assumption) ?_))
local macro_rules | `(tactic| walk_at "sq") => `(tactic| repeat (first | assumption | exact sq_up | exact sl_up | exact tp_sq (by assumption) | exact Evl.sq_of (by assumption) | refine sq_new (by assumption) ?_ | refine sl_new (by assumption) ?_ | refine sq_lst (by assumption) ?_ | refine sq_ex (by assumption) ?_ | refine sl_ex (by assumption) ?_ | refine sq_mv (by assumption) ?_))
local macro_rules | `(tactic| walk_at "ex") => `(tactic| repeat (first | assumption | exact Ex.rfl' _ | refine Ex.nw ?_ (by assumption) | refine Ex.tr ?_ (by assumption)))
local macro_rules | `(tactic| walk_at "cond") => `(tactic| first | decide | exact Or.inl ⟨by omega, by omega⟩ | exact Or.inr ⟨by omega, by omega⟩ | exact ⟨by omega, by omega⟩ | omega)
local macro_rules | `(tactic| walk_at "rd1") => `(tactic| first
  | refine ⟨_, rfl, ?_⟩
  | refine ⟨_, _, rfl, rfl, ?_⟩
  | refine ⟨_, _, rfl, ?_⟩
  | refine ⟨rfl, ?_⟩
  | refine ⟨_, _, _, rfl, ?_⟩
  | (refine' ⟨_, _, _, _, rfl, rfl, ?h, ?ha, ?q⟩; (case h => walk_at "sq"); (case ha => first | assumption | rfl | exact at_c0 _ _ | exact at_c1 _ _ _ | exact at_c2 _ _ _ _ | (refine at_vals ?_; omega) | exact atI_nat (by assumption)))
  | refine ⟨_, _, _, _, rfl, ?_⟩
  | refine ⟨_, _, _, _, _, rfl, ?_⟩
  | (refine' ⟨_, _, rfl, ?h, ?ha, ?q⟩; (case h => walk_at "sq"); (case ha => first | rfl | exact Nat.le_of_ble_eq_true rfl))
  | refine Or.inr ⟨_, rfl, ?_⟩
  | (refine' ⟨_, _, rfl, Or.inr ?h, ?q⟩; (case h => walk_at "sq"))
  | (refine' ⟨_, _, rfl, Or.inl ?h, ?q⟩; (case h => walk_at "sq"))
  | refine ⟨_, _, _, _, _, rfl, .ty _, .base (.int _), kit_ty kit_ii, ?_⟩
  | refine ⟨_, _, _, _, _, rfl, .ty _, .base (.int _), kit_ty kit_ib, ?_⟩
  | refine ⟨_, _, _, _, _, rfl, .ty _, .base (.str _), kit_ty kit_ss, ?_⟩
  | refine ⟨_, _, _, _, _, rfl, .ty _, .base (.tup (by assumption)), kit_ty kit_tt, ?_⟩
  | with_reducible refine iteT ?_
  | with_reducible refine iteF ?_
  | refine ite_yes (by first | decide | omega) ?_
  | refine ite_no (by first | decide | omega) ?_
  | refine ite_no (fun z => absurd (V.str.inj z) (by assumption)) ?_
  | refine ite_no (fun z => absurd (V.int.inj z) (by omega)) ?_
  | refine ite_yes (congrArg V.int (by omega)) ?_
  | refine ite_nyes (by first | decide | omega) ?_
  | refine ite_nno (by first | decide | omega) ?_
  | (refine' And.intro (Or.inl ⟨rfl, _, ?h⟩) ?q; (case h => first | exact SqL.of (by first | assumption | exact upd_same) | walk_at "sq"))
  | (refine' And.intro ?h ?q; (case h => exact Evl.sz_of (Nat.le_of_ble_eq_true rfl)))
  | refine fun p (hp : (_ : Hp) p = none) => ?_
  | (refine' ⟨_, _, rfl, Or.inr ?h, rfl, rfl, ?q⟩; (case h => walk_at "sq"))
  | (refine' ⟨_, _, rfl, Or.inl ?h, rfl, rfl, ?q⟩; (case h => walk_at "sq"))
  | (refine' ⟨_, _, _, _, _, rfl, ?h, ?c, ?n, ?l, ?q⟩; (case h => walk_at "in"); (case c => assumption); (case n => assumption); (case l => walk_at "lk"))
  | (refine' ⟨_, _, _, rfl, ?h, ?l, ?q⟩; (case h => walk_at "in"); (case l => exact lk_none (by decide) _))
  | (refine' And.intro ?h ?q; (case h => walk_at "cond")))
local macro_rules | `(tactic| walk_at "rd") => `(tactic| repeat walk_at "rd1")
local macro_rules | `(tactic| walk_at "rs") => `(tactic| repeat' (first | walk_at "rd1" | refine ite2d (fun h => ?_) (fun h => ?_) | refine ite2n (fun h => ?_) (fun h => ?_) | refine ite2 (fun h => ?_) (fun h => ?_)))
local macro_rules | `(tactic| walk_at "pu") => `(tactic| repeat (first | assumption | refine purse_new ?_ (by assumption)))
local macro_rules | `(tactic| walk_at "mv") => `(tactic| repeat (first | assumption | exact Mv.rf _ _ | refine Mv.nw ?_ (by assumption) | refine Mv.tr ?_ (by assumption)))

variable {P : Program} {w : World} {K : PySem.W.Frag} {mg : Str → Option Value} {base : Heap} {D : Ad}
/-- what a land may change -/
def LS (a : Addr) (L : Lnd) : List Addr := [a, L.past, L.fut, L.shelf]
theorem LandAt.nots {H : Hp} {a : Addr} {L : Lnd} (h : LandAt D H a L) {b : Addr} {o : HO} (hb : H b = some o) (n1 : ∀ C dx fs, o ≠ .ins C dx fs) (n2 : ∀ l, o ≠ .lst l) (n3 : ∀ k, o ≠ .dK k) : b ∉ LS a L := by
  intro hm
  obtain ⟨us, h1, _⟩ := h.past
  obtain ⟨vs, h2, _⟩ := h.fut
  have h3 := h.ins
  have h4 := h.shelf
  rcases List.mem_cons.mp hm with e | hm
  · rw [e, h3] at hb; exact n1 _ _ _ (Option.some.inj hb).symm
  rcases List.mem_cons.mp hm with e | hm
  · rw [e, h1] at hb; exact n2 _ (Option.some.inj hb).symm
  rcases List.mem_cons.mp hm with e | hm
  · rw [e, h2] at hb; exact n2 _ (Option.some.inj hb).symm
  · rw [List.mem_singleton.mp hm, h4] at hb; exact n3 _ (Option.some.inj hb).symm
theorem LandAt.tst {H H' : Hp} {a : Addr} {L : Lnd} (h : LandAt D H a L) (f : Frs (LS a L) H H') : Tst H H' := fun p xs hp => f p _ hp (h.nots hp (fun _ _ _ z => by cases z) (fun _ z => by cases z) (fun _ z => by cases z))
theorem Frs.sub {S S' : List Addr} {H H' : Hp} (f : Frs S H H') (h : ∀ b ∈ S, b ∈ S') : Frs S' H H' := fun b o hb hn => f b o hb fun z => hn (h b z)
theorem stl_tst {H H' : Hp} {l : Addr} {fs : List Stp} (h : StL H l fs) (t : Tst H H') (hl : ∀ us, H l = some (.lst us) → H' l = some (.lst us)) : StL H' l fs := by
  obtain ⟨us, h1, h2⟩ := h
  exact ⟨us, hl us h1, pair_tst t h2⟩
def spEditM (D : Ad) : Sp := fun vs H Q _ => ∃ (a : Addr) (L : Lnd) (v : V) (e : Ed), vs = [.ref a, v] ∧ LandAt D H a L ∧ EdP H v e ∧ EdOk e ∧ L.es.length < 20 ∧ L.ps.length < 20 ∧
  ∀ (r : V) (L' : Lnd) (H' : Hp), LandAt D H' a L' → L'.g = L.g → L'.fs = L.fs → L'.es = L.es ++ [e] → L'.ps = L.ps ++ [L.es] → L'.past = L.past → L'.shelf = L.shelf → L'.nf = 0 → H L'.fut = none → Frs (LS a L) H H' → Q r H'
theorem h_editM (T : Txt K w mg D) (F : MethAt K D.C "edit" "Land.edit" s_Land_edit) (G_put : HasM P w K mg base 3 D.C "put" (spPutE D)) (G_noted : HasM P w K mg base 1 D.C "noted" (spNoted D)) : HasM P w K mg base 4 D.C "edit" (spEditM D) := by
  refine hasM_of F sc_Land_edit (fun _ _ _ _ _ _ us hl => match us, hl with | [_, _], _ => rfl) ?_ ?_
  · rintro _ _ _ _ ⟨_, _, _, _, rfl, _⟩; rfl
  · rintro f cdv A outer s0 H vs Q E hr ⟨a, L, v, e, rfl, hL, hv, hok, hlen, hps, kk⟩
    refine ⟨_, pss_cons (ps_set (i := 2) sc_Land_edit.nd rfl (Or.inl rfl) (pe_fld (pv 0) rfl))
      (pss_cons (ps_set (i := 3) sc_Land_edit.nd rfl (Or.inl rfl) (pe_m G_put (hr.mono (by decide)) T.cl (pv 0) (pa_cons (pv 1) (pa_nil))))
      (pss_cons (ps_expr (pe_m G_noted (hr.mono (by decide)) T.cl (pv 0) (pa_cons (pv 2) (pa_nil))))
      (pss_one (ps_ret (pv 3))))), ?_⟩
    have hcl1 := T.cl
    have hn1 := T.n_laid
    have hins := hL.ins
    obtain ⟨us, hpast, hpl, hpp⟩ := hL.past
    have hsh := hL.shelf
    obtain ⟨vs, hfut, hfl⟩ := hL.fut
    have npa : L.past ≠ a := fun z => by rw [z] at hpast; cases hins.symm.trans hpast
    have nps : L.past ≠ L.shelf := fun z => by rw [z] at hpast; cases hsh.symm.trans hpast
    have nsa : L.shelf ≠ a := fun z => by rw [z] at hsh; cases hins.symm.trans hsh
    walk_at "rd"
    refine ⟨a, L, v, e, rfl, hL, hv, hok, hlen, fun k t H1 f1 i1 l1 s1 => ?_⟩
    have p1 : H1 L.past = some (.lst us) := f1 _ _ hpast (by simp [npa, nps])
    walk_at "rd"
    refine ⟨a, { L with laid := t, last := L.last + 1, es := L.es ++ [e] }, L.laid, us, rfl, i1, p1, hpl, fun q H2 hq e2 => ?_⟩
    have f01 : Frs (LS a L) H H1 := f1.sub fun b hb => by simp [LS] at hb ⊢; rcases hb with h | h <;> simp [h]
    have nq : ∀ b o, H1 b = some o → b ≠ q := fun b o hb => ne_of_none hb hq
    have hq0 : H q = none := by
      cases c : H q with
      | none => rfl
      | some o =>
        by_cases m : q ∈ ([a, L.shelf] : List Addr)
        · exfalso
          rcases List.mem_cons.mp m with z | m
          · rw [z] at hq; cases i1.symm.trans hq
          · rw [List.mem_singleton.mp m] at hq; cases s1.symm.trans hq
        · have := f1 q o c m
          rw [hq] at this; cases this
    have f12 : Frs (LS a L) H H2 := fun b o hb hn => by
      have h1 := f01 b o hb hn
      have b1 : b ≠ a := fun z => hn (by simp [LS, z])
      have b2 : b ≠ L.past := fun z => hn (by simp [LS, z])
      rw [e2, upd_ne b1, upd_ne (nq b o h1), upd_ne b2]
      exact h1
    have t02 : Tst H H2 := hL.tst f12
    have t12 : Tst H1 H2 := fun p xs hp => by
      have b1 : p ≠ a := fun z => by subst z; cases i1.symm.trans hp
      have b2 : p ≠ L.past := fun z => by subst z; cases p1.symm.trans hp
      show H2 p = _
      rw [e2, upd_ne b1, upd_ne (nq p _ hp), upd_ne b2]
      exact hp
    have nqa := nq _ _ i1
    have nqp := nq _ _ p1
    have hcode : ∀ ws, H L.code = some (.lst ws) → H2 L.code = some (.lst ws) := fun ws hw => f12 _ _ hw (by
      intro hm
      simp [LS] at hm
      rcases hm with z | z | z | z
      · rw [z] at hw; cases hins.symm.trans hw
      · exact hL.pc z.symm
      · exact hL.fc z.symm
      · rw [z] at hw; cases hsh.symm.trans hw)
    walk_at "rd"
    refine kk _ { L with laid := t, last := L.last + 1, es := L.es ++ [e], fut := q, ps := L.ps ++ [L.es], nf := 0 } H2 ?_ rfl rfl rfl rfl rfl rfl rfl hq0 f12
    refine ⟨by rw [e2]; exact upd_same, stl_tst hL.code t02 hcode, hL.cok, l1.mono t12, ?_, by simp; omega, ?_, ?_, ?_, ?_, hL.pc, ?_⟩
    · intro e' he'
      rcases List.mem_append.mp he' with h | h
      · exact hL.eok e' h
      · rw [List.mem_singleton.mp h]; exact hok
    · refine ⟨us ++ [.ref L.laid], by rw [e2, upd_ne npa, upd_ne nqp, upd_same], ?_, pair_snoc (past_pair t02 hpp) ⟨L.laid, rfl, hL.laid.mono t02, hL.eok, hL.elen⟩⟩
      have := pair_len hpp
      simp; omega
    · exact ⟨[], by rw [e2, upd_ne nqa.symm, upd_same], rfl⟩
    · have nsp : L.shelf ≠ L.past := nps.symm
      show H2 L.shelf = _
      rw [e2, upd_ne nsa, upd_ne (nq _ _ s1), upd_ne nsp]
      exact s1
    · exact nqp
    · intro z
      obtain ⟨ws, h1, _⟩ := hL.code
      rw [show q = L.code from z, h1] at hq0
      cases hq0
/-! ### back -/
theorem dat_list {H : Hp} {n : Nat} : ∀ {us : List V}, (∀ u ∈ us, ∃ d, Dat K H n u d) → ∃ ds, DpAll K H us ds ∧ PyData.canLayAll0 ds = true ∧ PyData.depthAll ds ≤ n ∧ ds.length = us.length
  | [], _ => ⟨[], .nil, rfl, Nat.zero_le _, rfl⟩
  | u :: us, h => by
    obtain ⟨d, hd⟩ := h u (List.mem_cons_self ..)
    obtain ⟨ds, h1, h2, h3, h4⟩ := dat_list (us := us) fun v hv => h v (List.mem_cons_of_mem _ hv)
    exact ⟨d :: ds, .cons hd.dp h1, by simp [PyData.canLayAll0, hd.lay, h2], by have := hd.dep; simp [PyData.depthAll]; omega, by simp [h4]⟩
theorem num_so {x : Str} (h : NumW x) : PyData.strOk x = true := by cases h <;> decide +kernel
theorem EdP.dat {H : Hp} {v : V} {e : Ed} (h : EdP H v e) : ∃ d, Dat K H 2 v d := by
  obtain ⟨p, q, rfl, hq, h3⟩ := h
  have hb : Dat K H 1 (.ref q) (.tuple [.int e.a, .int e.b, .int e.c, .int e.d]) := dat_4 (n := 0) hq (dat_int _) (dat_int _) (dat_int _) (dat_int _)
  rcases h3 with ⟨hw, hp⟩ | ⟨hw, hp⟩
  · exact ⟨_, dat_3 hp (dat_str (num_so hw)) hb (dat_int _)⟩
  · exact ⟨_, dat_4 hp (dat_str (by decide +kernel)) hb (dat_int _) (dat_int _)⟩
theorem paired_all {α β : Type} {R : α → β → Prop} : ∀ {us : List α} {fs : List β}, Paired R us fs → ∀ u ∈ us, ∃ f, R u f
  | _, _, .nil, _, h => nomatch h
  | _, _, .cons a t, u, h => by
    rcases List.mem_cons.mp h with e | h
    · exact ⟨_, e ▸ a⟩
    · exact paired_all t u h
theorem LaidAt.dat {H : Hp} {p : Addr} {es : List Ed} (h : LaidAt H p es) : ∃ d, Dat K H 4 (.ref p) d := by
  obtain ⟨us, h1, h2⟩ := h
  obtain ⟨ds, a, b, c, _⟩ := dat_list (K := K) (H := H) (n := 3) (us := us) fun u hu => by
    obtain ⟨e, q, k, w, rfl, hq, hw⟩ := paired_all h2 u hu
    obtain ⟨d, hd⟩ := hw.dat (K := K)
    exact ⟨_, dat_2 hq (dat_int _) hd⟩
  exact ⟨.tuple ds, dp_tup h1 a, b, by simp [PyData.depth]; omega⟩
def spBack (D : Ad) : Sp := fun vs H Q _ => ∃ (a : Addr) (L : Lnd) (ps : List (List Ed)) (es : List Ed), vs = [.ref a] ∧ LandAt D H a L ∧ L.ps = ps ++ [es] ∧ L.nf < 20 ∧
  ∀ (r : V) (L' : Lnd) (H' : Hp), LandAt D H' a L' → L'.g = L.g → L'.fs = L.fs → L'.es = es → L'.ps = ps → L'.past = L.past → L'.fut = L.fut → L'.shelf = L.shelf → L'.nf = L.nf + 1 → Frs (LS a L) H H' → Q r H'
theorem pair_last {α β : Type} {R : α → β → Prop} : ∀ {us : List α} {fs : List β} {f : β}, Paired R us (fs ++ [f]) → ∃ vs u, us = vs ++ [u] ∧ Paired R vs fs ∧ R u f
  | _, [], _, .cons a .nil => ⟨[], _, rfl, .nil, a⟩
  | _, g :: fs, _, .cons a t => by
    obtain ⟨vs, u, e, h1, h2⟩ := pair_last t
    exact ⟨_ :: vs, u, by rw [e]; rfl, .cons a h1, h2⟩
theorem h_back (T : Txt K w mg D) (F : MethAt K D.C "back" "Land.back" s_Land_back) (G_change : HasM P w K mg base 1 D.C "change" (spChange D)) : HasM P w K mg base 2 D.C "back" (spBack D) := by
  refine hasM_of F sc_Land_back (fun _ _ _ _ _ _ us hl => match us, hl with | [_], _ => rfl) ?_ ?_
  · rintro _ _ _ _ ⟨_, _, _, _, rfl, _⟩; rfl
  · rintro f cdv A outer s0 H vs Q E hr ⟨a, L, ps, es, rfl, hL, hps, hnf, kk⟩
    refine ⟨_, pss_cons (ps_if (pt_cmpR (op_eqD hr.units) (pe_fld (pv 0) rfl) (pe_lst (pa_nil)) (nomark _)) (pss_never) (pss_nil))
      (pss_cons (ps_expr (pe_bm PySem.F.plainAttrs_list PySem.F.slot_list_append PySem.F.type_list_append mt_append (pe_fld (pv 0) rfl) (pa_cons (pe_fld (pv 0) rfl) (pa_nil))))
      (pss_one (ps_expr (pe_m G_change (hr.mono (by decide)) T.cl (pv 0) (pa_cons (pe_bm0 PySem.F.plainAttrs_list PySem.F.slot_list_pop PySem.F.type_list_pop mt_pop (pe_fld (pv 0) rfl)) (pa_nil)))))), ?_⟩
    have hcl1 := T.cl
    have hn1 := T.n_laid
    have hn2 := T.n_past
    have hn3 := T.n_future
    have hins := hL.ins
    obtain ⟨us, hpast, hpl, hpp⟩ := hL.past
    have hsh := hL.shelf
    obtain ⟨ws, hfut, hfl⟩ := hL.fut
    have hpp0 := hpp
    rw [hps] at hpp0
    obtain ⟨vs, u, eu, hpv, t, ru, hlt, heok, helen⟩ := pair_last hpp0
    subst eu ru
    have npa : L.past ≠ a := fun z => by rw [z] at hpast; cases hins.symm.trans hpast
    have nps : L.past ≠ L.shelf := fun z => by rw [z] at hpast; cases hsh.symm.trans hpast
    have nsa : L.shelf ≠ a := fun z => by rw [z] at hsh; cases hins.symm.trans hsh
    have nfa : L.fut ≠ a := fun z => by rw [z] at hfut; cases hins.symm.trans hfut
    have nfs : L.fut ≠ L.shelf := fun z => by rw [z] at hfut; cases hsh.symm.trans hfut
    obtain ⟨ds, d1, d2, d3, d4⟩ := dat_list (K := K) (H := H) (n := 4) (us := vs ++ [.ref t]) fun u hu => by
      obtain ⟨es', p, rfl, h, _⟩ := paired_all hpp u hu
      exact h.dat
    obtain ⟨d0, dr, rfl⟩ : ∃ d0 dr, ds = d0 :: dr := by
      cases ds with
      | nil => simp at d4
      | cons d0 dr => exact ⟨_, _, rfl⟩
    have hsp : SeqAt.shaped (.list (d0 :: dr)) = true := by
      unfold SeqAt.shaped
      rw [show PyData.canLay0 (.list (d0 :: dr)) = true from d2, decide_eq_true (by simp only [PyData.depth]; omega)]
      rfl
    walk_at "rd"
    rename_i p0 hp0
    have e0 : Ex H (upd H p0 (.lst [])) := Ex.nw (Ex.rfl' H) hp0
    refine ⟨.list (d0 :: dr), .list [], dp_mono e0 (.lst (Evl.sq_of hpast) d1), .lst sl_up .nil, hsp, rfl, ?_⟩
    have L1 := hL.ex e0
    have hins1 := L1.ins
    have hfut1 := e0 _ _ hfut
    have hpast1 := e0 _ _ hpast
    have hsh1 := e0 _ _ hsh
    walk_at "rd"
    refine ⟨L.fut, ws, _, rfl, rfl, hfut1, Evl.sz_lt (by omega), ?_⟩
    have hins2 : (upd (upd H p0 (.lst [])) L.fut (.lst (ws ++ [.ref L.laid]))) a = some (.ins D.C L.dx (lf L)) := by rw [upd_ne nfa.symm]; exact hins1
    have hpast2 : (upd (upd H p0 (.lst [])) L.fut (.lst (ws ++ [.ref L.laid]))) L.past = some (.lst (vs ++ [.ref t])) := by rw [upd_ne hL.pf]; exact hpast1
    walk_at "rd"
    refine ⟨L.past, vs ++ [.ref t], .ref t, rfl, rfl, hpast2, by simp, ?_⟩
    rw [List.dropLast_concat]
    generalize hH3 : upd (upd (upd H p0 (.lst [])) L.fut (.lst (ws ++ [.ref L.laid]))) L.past (.lst vs) = H3
    have i3 : H3 a = some (.ins D.C L.dx (lf L)) := by rw [← hH3, upd_ne npa.symm]; exact hins2
    have s3 : H3 L.shelf = some (.dK []) := by rw [← hH3, upd_ne nps.symm, upd_ne nfs.symm]; exact hsh1
    have f3 : H3 L.fut = some (.lst (ws ++ [.ref L.laid])) := by rw [← hH3, upd_ne hL.pf.symm, upd_same]
    have q3 : H3 L.past = some (.lst vs) := by rw [← hH3, upd_same]
    have r3 : Frs (LS a L) H H3 := fun b o hb hn => by
      have b2 : b ≠ L.past := fun z => hn (by simp [LS, z])
      have b3 : b ≠ L.fut := fun z => hn (by simp [LS, z])
      rw [← hH3, upd_ne b2, upd_ne b3]
      exact e0 b o hb
    walk_at "rd"
    refine ⟨a, L, t, rfl, i3, s3, ?_⟩
    generalize hH4 : upd (upd H3 a (.ins D.C L.dx (lf { L with laid := t }))) L.shelf (.dK []) = H4
    have r4 : Frs (LS a L) H H4 := fun b o hb hn => by
      have b1 : b ≠ a := fun z => hn (by simp [LS, z])
      have b2 : b ≠ L.shelf := fun z => hn (by simp [LS, z])
      rw [← hH4, upd_ne b2, upd_ne b1]
      exact r3 b o hb hn
    have t4 : Tst H H4 := hL.tst r4
    have hcode : ∀ ws, H L.code = some (.lst ws) → H4 L.code = some (.lst ws) := fun ws hw => r4 _ _ hw (by
      intro hm
      simp [LS] at hm
      rcases hm with z | z | z | z
      · rw [z] at hw; cases hins.symm.trans hw
      · exact hL.pc z.symm
      · exact hL.fc z.symm
      · rw [z] at hw; cases hsh.symm.trans hw)
    walk_at "rd"
    refine kk _ { L with laid := t, es := es, ps := ps, nf := L.nf + 1 } H4 ?_ rfl rfl rfl rfl rfl rfl rfl rfl r4
    refine ⟨by rw [← hH4, upd_ne nsa.symm, upd_same]; rfl, stl_tst hL.code t4 hcode, hL.cok, hlt.mono t4, heok, helen, ?_, ?_, by rw [← hH4, upd_same], hL.pf, hL.pc, hL.fc⟩
    · refine ⟨vs, by rw [← hH4, upd_ne nps, upd_ne npa]; exact q3, by simp at hpl; omega, past_pair t4 hpv⟩
    · refine ⟨ws ++ [.ref L.laid], by rw [← hH4, upd_ne nfs, upd_ne nfa]; exact f3, by simp; omega⟩

end Kw
set_option Elab.async false
set_option linter.all false
set_option maxRecDepth 100000
set_option maxHeartbeats 2000000
namespace Kw
open PySem PySem.Spec PyProof.Rows L2
local macro_rules | `(tactic| walk_at "in") => `(tactic| repeat (first | assumption | refine in_new (by assumption) ?_ | refine in_ex (by assumption) ?_))
local macro_rules | `(tactic| walk_at "lk") => `(tactic| first | exact lk_laid _ | exact lk_code _ | exact lk_grain _ | exact lk_past _ | exact lk_future _ | exact lk_shelf _ | exact lk_last _)
local macro_rules | `(tactic| walk_at "tp") => `(tactic| repeat (first | assumption | exact tp_up | refine tp_new (by assumption) ?_ | refine tp_lst (by assumption) ?_ | refine tp_ex (by assumption) ?_ | refine tp_mv (by assumption) ?_))
local macro_rules | `(tactic| walk_at "sq") => `(tactic| repeat (first | assumption | exact sq_up | exact sl_up | exact tp_sq (by assumption) | exact Evl.sq_of (by assumption) | refine sq_new (by assumption) ?_ | refine sl_new (by assumption) ?_ | refine sq_lst (by assumption) ?_ | refine sq_ex (by assumption) ?_ | refine sl_ex (by assumption) ?_ | refine sq_mv (by assumption) ?_))
local macro_rules | `(tactic| walk_at "ex") => `(tactic| repeat (first | assumption | exact Ex.rfl' _ | refine Ex.nw ?_ (by assumption) | refine Ex.tr ?_ (by assumption)))
local macro_rules | `(tactic| walk_at "cond") => `(tactic| first | decide | exact Or.inl ⟨by omega, by omega⟩ | exact Or.inr ⟨by omega, by omega⟩ | exact ⟨by omega, by omega⟩ | omega)
local macro_rules | `(tactic| walk_at "rd1") => `(tactic| first
  | refine ⟨_, rfl, ?_⟩
  | refine ⟨_, _, rfl, rfl, ?_⟩
  | refine ⟨_, _, rfl, ?_⟩
  | refine ⟨rfl, ?_⟩
  | refine ⟨_, _, _, rfl, ?_⟩
  | (refine' ⟨_, _, _, _, rfl, rfl, ?h, ?ha, ?q⟩; (case h => walk_at "sq"); (case ha => first | assumption | rfl | exact at_c0 _ _ | exact at_c1 _ _ _ | exact at_c2 _ _ _ _ | (refine at_vals ?_; omega) | exact atI_nat (by assumption)))
  | refine ⟨_, _, _, _, rfl, ?_⟩
  | refine ⟨_, _, _, _, _, rfl, ?_⟩
  | (refine' ⟨_, _, rfl, ?h, ?ha, ?q⟩; (case h => walk_at "sq"); (case ha => first | rfl | exact Nat.le_of_ble_eq_true rfl))
  | refine Or.inr ⟨_, rfl, ?_⟩
  | (refine' ⟨_, _, rfl, Or.inr ?h, ?q⟩; (case h => walk_at "sq"))
  | (refine' ⟨_, _, rfl, Or.inl ?h, ?q⟩; (case h => walk_at "sq"))
  | refine ⟨_, _, _, _, _, rfl, .ty _, .base (.int _), kit_ty kit_ii, ?_⟩
  | refine ⟨_, _, _, _, _, rfl, .ty _, .base (.int _), kit_ty kit_ib, ?_⟩
  | refine ⟨_, _, _, _, _, rfl, .ty _, .base (.str _), kit_ty kit_ss, ?_⟩
  | refine ⟨_, _, _, _, _, rfl, .ty _, .base (.tup (by assumption)), kit_ty kit_tt, ?_⟩
  | with_reducible refine iteT ?_
  | with_reducible refine iteF ?_
  | refine ite_yes (by first | decide | omega) ?_
  | refine ite_no (by first | decide | omega) ?_
  | refine ite_no (fun z => absurd (V.str.inj z) (by assumption)) ?_
  | refine ite_no (fun z => absurd (V.int.inj z) (by omega)) ?_
  | refine ite_yes (congrArg V.int (by omega)) ?_
  | refine ite_nyes (by first | decide | omega) ?_
  | refine ite_nno (by first | decide | omega) ?_
  | (refine' And.intro (Or.inl ⟨rfl, _, ?h⟩) ?q; (case h => first | exact SqL.of (by first | assumption | exact upd_same) | walk_at "sq"))
  | (refine' And.intro ?h ?q; (case h => exact Evl.sz_of (Nat.le_of_ble_eq_true rfl)))
  | refine fun p (hp : (_ : Hp) p = none) => ?_
  | (refine' ⟨_, _, rfl, Or.inr ?h, rfl, rfl, ?q⟩; (case h => walk_at "sq"))
  | (refine' ⟨_, _, rfl, Or.inl ?h, rfl, rfl, ?q⟩; (case h => walk_at "sq"))
  | (refine' ⟨_, _, _, _, _, rfl, ?h, ?c, ?n, ?l, ?q⟩; (case h => walk_at "in"); (case c => assumption); (case n => assumption); (case l => walk_at "lk"))
  | (refine' ⟨_, _, _, rfl, ?h, ?l, ?q⟩; (case h => walk_at "in"); (case l => exact lk_none (by decide) _))
  | (refine' And.intro ?h ?q; (case h => walk_at "cond")))
local macro_rules | `(tactic| walk_at "rd") => `(tactic| repeat walk_at "rd1")
local macro_rules | `(tactic| walk_at "rs") => `(tactic| repeat' (first | walk_at "rd1" | refine ite2d (fun h => ?_) (fun h => ?_) | refine ite2n (fun h => ?_) (fun h => ?_) | refine ite2 (fun h => ?_) (fun h => ?_)))
local macro_rules | `(tactic| walk_at "pu") => `(tactic| repeat (first | assumption | refine purse_new ?_ (by assumption)))
local macro_rules | `(tactic| walk_at "mv") => `(tactic| repeat (first | assumption | exact Mv.rf _ _ | refine Mv.nw ?_ (by assumption) | refine Mv.tr ?_ (by assumption)))

variable {P : Program} {w : World} {K : PySem.W.Frag} {mg : Str → Option Value} {base : Heap} {D : Ad}
/-! ### Land(rules, seed) -/
theorem Frs.up {S : List Addr} {H : Hp} {p : Addr} {o : HO} (h : p ∈ S) : Frs S H (upd H p o) := fun b u hb hn => by
  rw [upd_ne (fun z => hn (by rw [z]; exact h))]; exact hb
theorem Frs.ex {S : List Addr} {H H' : Hp} (e : Ex H H') : Frs S H H' := fun b o hb _ => e b o hb
theorem Frs.tr {S : List Addr} {H H1 H2 : Hp} (a : Frs S H H1) (b : Frs S H1 H2) : Frs S H H2 := fun x o h n => b x o (a x o h n) n
theorem Frs.rf (S : List Addr) (H : Hp) : Frs S H H := fun _ _ h _ => h
theorem pf_new (v : V) (g : Int) (l q5 q6 q8 q9 q11 dx : Addr) (fs : List Stp) : putF "shelf" (.ref q11) (putF "room" (.int 64) (putF "future" (.ref q9) (putF "past" (.ref q8) (putF "last" (.int 0) (putF "laid" (.ref q6) (putF "codes" (.ref q5) (putF "code" (.ref l) (putF "grain" (.int g) (putF "base" v []))))))))) =
    lf { dx := dx, v := v, g := g, code := l, codes := q5, laid := q6, last := 0, past := q8, fut := q9, shelf := q11, fs := fs, es := [], ps := [], nf := 0 } := by
  unfold lf
  simp (config := { decide := true }) [putF]
def spInit (D : Ad) : Sp := fun vs H Q _ => ∃ (p dx : Addr) (v : V) (g : Int), vs = [.ref p, v, .int g, .int 64] ∧ H p = some (.ins D.C dx []) ∧ FdP H 2 v ∧
  ∀ (L : Lnd) (H' : Hp), LandAt D H' p L → L.g = g → L.es = [] → L.ps = [] → L.nf = 0 → H L.past = none → H L.fut = none → H L.shelf = none → Frs [p] H H' → Q .non H'
theorem b_init (T : Txt K w mg D) (G_must_rules : Has P w K mg base 11 "must_rules" spRules0 []) (G_is_whole : Has P w K mg base 1 "is_whole" spWhole []) (G_steps_in : Has P w K mg base 5 "steps_in" spStepsIn []) : BodyOk P w K mg base "Land.__init__" s_Land___init__ nm_Land___init__ 11 (spInit D) := by
  rintro f cdv A outer s0 H vs Q E hr ⟨p, dx, v, g, rfl, hp, hv, kk⟩
  refine ⟨_, pss_cons (ps_expr (pe_c G_must_rules (hr.mono (by decide)) (by rfl) (pa_cons (pv 1) (pa_nil))))
      (pss_cons (ps_if (pt_not (pt_val (pe_c G_is_whole (hr.mono (by decide)) (by rfl) (pa_cons (pv 3) (pa_cons (pe_int) (pa_cons (pe_gi T.MOST_MEMORY (by rfl)) (pa_nil))))))) (pss_never) (pss_nil))
      (pss_cons (ps_fld (pv 0) (pv 1) rfl)
      (pss_cons (ps_fld (pv 0) (pv 2) rfl)
      (pss_cons (ps_fld (pv 0) (pe_c G_steps_in (hr.mono (by decide)) (by rfl) (pa_cons (pv 1) (pa_nil))) rfl)
      (pss_cons (ps_fld (pv 0) (pe_dnewT) rfl)
      (pss_cons (ps_fld (pv 0) (pe_tup (pa_nil)) rfl)
      (pss_cons (ps_fld (pv 0) (pe_int) rfl)
      (pss_cons (ps_fld (pv 0) (pe_lst (pa_nil)) rfl)
      (pss_cons (ps_fld (pv 0) (pe_lst (pa_nil)) rfl)
      (pss_cons (ps_fld (pv 0) (pv 3) rfl)
      (pss_one (ps_fld (pv 0) (pe_dnewK) rfl)))))))))))), ?_⟩
  have hcl1 := T.cl
  walk_at "rd"
  intro H1 e1
  have hp1 := e1 _ _ hp
  have mp : p ∈ [p] := List.mem_singleton.mpr rfl
  have F1 : Frs [p] H H1 := .ex e1
  walk_at "rd"
  · decide
  walk_at "rd"
  refine ⟨p, D.C, dx, _, rfl, hp1, hcl1, T.n_base, Nat.zero_lt_succ _, ?_⟩
  have F2 := F1.tr (Frs.up (o := .ins D.C dx (putF "base" v [])) mp)
  have i2 : (upd H1 p (.ins D.C dx (putF "base" v []))) p = _ := upd_same
  generalize upd H1 p (.ins D.C dx (putF "base" v [])) = H2 at F2 i2
  walk_at "rd"
  refine ⟨p, D.C, dx, _, rfl, i2, hcl1, T.n_grain, (by show 1 < 1000; decide), ?_⟩
  have F3 := F2.tr (Frs.up (o := .ins D.C dx (putF "grain" (.int g) (putF "base" v []))) mp)
  have i3 : (upd H2 p (.ins D.C dx (putF "grain" (.int g) (putF "base" v [])))) p = _ := upd_same
  generalize upd H2 p (.ins D.C dx (putF "grain" (.int g) (putF "base" v []))) = H3 at F3 i3
  have tF : ∀ {X : Hp}, Frs [p] H X → Tst H X := fun f a xs h => f a _ h (fun z => by rw [List.mem_singleton.mp z] at h; cases hp.symm.trans h)
  walk_at "rd"
  refine ⟨hv.mono (tF F3), fun l fs H4 e4 hl4 hst hall hf0 hf1 => ?_⟩
  have i4 := e4 _ _ i3
  have F4 := F3.tr (Frs.ex e4)
  have nlp : l ≠ p := (ne_of_none i3 hl4).symm
  walk_at "rd"
  refine ⟨p, D.C, dx, _, rfl, i4, hcl1, T.n_code, (by show 2 < 1000; decide), ?_⟩
  have G5 : Frs [p] H4 (upd H4 p (.ins D.C dx (putF "code" (.ref l) (putF "grain" (.int g) (putF "base" v []))))) := Frs.up mp
  have i5 : (upd H4 p (.ins D.C dx (putF "code" (.ref l) (putF "grain" (.int g) (putF "base" v []))))) p = _ := upd_same
  generalize upd H4 p (.ins D.C dx (putF "code" (.ref l) (putF "grain" (.int g) (putF "base" v [])))) = H5 at G5 i5
  walk_at "rd"
  rename_i q5 hq5
  have j5 : (upd H5 q5 (.dT [])) p = _ := in_new hq5 i5
  have K5 : Frs [p] H4 (upd H5 q5 (.dT [])) := G5.tr (Frs.ex (Evl.Ex.new hq5))
  refine ⟨p, D.C, dx, _, rfl, j5, hcl1, T.n_codes, (by show 3 < 1000; decide), ?_⟩
  have G6 : Frs [p] H4 (upd (upd H5 q5 (.dT [])) p (.ins D.C dx (putF "codes" (.ref q5) (putF "code" (.ref l) (putF "grain" (.int g) (putF "base" v [])))))) := K5.tr (Frs.up mp)
  have N5 : Frs [p] H5 (upd (upd H5 q5 (.dT [])) p (.ins D.C dx (putF "codes" (.ref q5) (putF "code" (.ref l) (putF "grain" (.int g) (putF "base" v [])))))) := (Frs.ex (Evl.Ex.new hq5)).tr (Frs.up mp)
  have i6 : (upd (upd H5 q5 (.dT [])) p (.ins D.C dx (putF "codes" (.ref q5) (putF "code" (.ref l) (putF "grain" (.int g) (putF "base" v [])))))) p = _ := upd_same
  have v5 : (upd (upd H5 q5 (.dT [])) p (.ins D.C dx (putF "codes" (.ref q5) (putF "code" (.ref l) (putF "grain" (.int g) (putF "base" v [])))))) q5 = some (.dT []) := by rw [upd_ne (ne_of_none i5 hq5).symm, upd_same]
  have M5 : Frs [p] (upd (upd H5 q5 (.dT [])) p (.ins D.C dx (putF "codes" (.ref q5) (putF "code" (.ref l) (putF "grain" (.int g) (putF "base" v [])))))) (upd (upd H5 q5 (.dT [])) p (.ins D.C dx (putF "codes" (.ref q5) (putF "code" (.ref l) (putF "grain" (.int g) (putF "base" v [])))))) := Frs.rf _ _
  generalize hH6 : upd (upd H5 q5 (.dT [])) p (.ins D.C dx (putF "codes" (.ref q5) (putF "code" (.ref l) (putF "grain" (.int g) (putF "base" v []))))) = H6 at *
  walk_at "rd"
  rename_i q6 hq6
  have j6 : (upd H6 q6 (.tup [])) p = _ := in_new hq6 i6
  have K6 : Frs [p] H4 (upd H6 q6 (.tup [])) := G6.tr (Frs.ex (Evl.Ex.new hq6))
  refine ⟨p, D.C, dx, _, rfl, j6, hcl1, T.n_laid, (by show 4 < 1000; decide), ?_⟩
  have G7 : Frs [p] H4 (upd (upd H6 q6 (.tup [])) p (.ins D.C dx (putF "laid" (.ref q6) (putF "codes" (.ref q5) (putF "code" (.ref l) (putF "grain" (.int g) (putF "base" v []))))))) := K6.tr (Frs.up mp)
  have N6 : Frs [p] H6 (upd (upd H6 q6 (.tup [])) p (.ins D.C dx (putF "laid" (.ref q6) (putF "codes" (.ref q5) (putF "code" (.ref l) (putF "grain" (.int g) (putF "base" v []))))))) := (Frs.ex (Evl.Ex.new hq6)).tr (Frs.up mp)
  have i7 : (upd (upd H6 q6 (.tup [])) p (.ins D.C dx (putF "laid" (.ref q6) (putF "codes" (.ref q5) (putF "code" (.ref l) (putF "grain" (.int g) (putF "base" v []))))))) p = _ := upd_same
  have v6 : (upd (upd H6 q6 (.tup [])) p (.ins D.C dx (putF "laid" (.ref q6) (putF "codes" (.ref q5) (putF "code" (.ref l) (putF "grain" (.int g) (putF "base" v []))))))) q6 = some (.tup []) := by rw [upd_ne (ne_of_none i6 hq6).symm, upd_same]
  have M6 : Frs [p] (upd (upd H6 q6 (.tup [])) p (.ins D.C dx (putF "laid" (.ref q6) (putF "codes" (.ref q5) (putF "code" (.ref l) (putF "grain" (.int g) (putF "base" v []))))))) (upd (upd H6 q6 (.tup [])) p (.ins D.C dx (putF "laid" (.ref q6) (putF "codes" (.ref q5) (putF "code" (.ref l) (putF "grain" (.int g) (putF "base" v []))))))) := Frs.rf _ _
  generalize hH7 : upd (upd H6 q6 (.tup [])) p (.ins D.C dx (putF "laid" (.ref q6) (putF "codes" (.ref q5) (putF "code" (.ref l) (putF "grain" (.int g) (putF "base" v [])))))) = H7 at *
  walk_at "rd"
  have j7 := i7
  have K7 := G7
  refine ⟨p, D.C, dx, _, rfl, j7, hcl1, T.n_last, (by show 5 < 1000; decide), ?_⟩
  have G8 : Frs [p] H4 (upd H7 p (.ins D.C dx (putF "last" (.int 0) (putF "laid" (.ref q6) (putF "codes" (.ref q5) (putF "code" (.ref l) (putF "grain" (.int g) (putF "base" v [])))))))) := K7.tr (Frs.up mp)
  have N7 : Frs [p] H7 (upd H7 p (.ins D.C dx (putF "last" (.int 0) (putF "laid" (.ref q6) (putF "codes" (.ref q5) (putF "code" (.ref l) (putF "grain" (.int g) (putF "base" v [])))))))) := Frs.up mp
  have i8 : (upd H7 p (.ins D.C dx (putF "last" (.int 0) (putF "laid" (.ref q6) (putF "codes" (.ref q5) (putF "code" (.ref l) (putF "grain" (.int g) (putF "base" v [])))))))) p = _ := upd_same
  generalize hH8 : upd H7 p (.ins D.C dx (putF "last" (.int 0) (putF "laid" (.ref q6) (putF "codes" (.ref q5) (putF "code" (.ref l) (putF "grain" (.int g) (putF "base" v []))))))) = H8 at *
  walk_at "rd"
  rename_i q8 hq8
  have j8 : (upd H8 q8 (.lst [])) p = _ := in_new hq8 i8
  have K8 : Frs [p] H4 (upd H8 q8 (.lst [])) := G8.tr (Frs.ex (Evl.Ex.new hq8))
  refine ⟨p, D.C, dx, _, rfl, j8, hcl1, T.n_past, (by show 6 < 1000; decide), ?_⟩
  have G9 : Frs [p] H4 (upd (upd H8 q8 (.lst [])) p (.ins D.C dx (putF "past" (.ref q8) (putF "last" (.int 0) (putF "laid" (.ref q6) (putF "codes" (.ref q5) (putF "code" (.ref l) (putF "grain" (.int g) (putF "base" v []))))))))) := K8.tr (Frs.up mp)
  have N8 : Frs [p] H8 (upd (upd H8 q8 (.lst [])) p (.ins D.C dx (putF "past" (.ref q8) (putF "last" (.int 0) (putF "laid" (.ref q6) (putF "codes" (.ref q5) (putF "code" (.ref l) (putF "grain" (.int g) (putF "base" v []))))))))) := (Frs.ex (Evl.Ex.new hq8)).tr (Frs.up mp)
  have i9 : (upd (upd H8 q8 (.lst [])) p (.ins D.C dx (putF "past" (.ref q8) (putF "last" (.int 0) (putF "laid" (.ref q6) (putF "codes" (.ref q5) (putF "code" (.ref l) (putF "grain" (.int g) (putF "base" v []))))))))) p = _ := upd_same
  have v8 : (upd (upd H8 q8 (.lst [])) p (.ins D.C dx (putF "past" (.ref q8) (putF "last" (.int 0) (putF "laid" (.ref q6) (putF "codes" (.ref q5) (putF "code" (.ref l) (putF "grain" (.int g) (putF "base" v []))))))))) q8 = some (.lst []) := by rw [upd_ne (ne_of_none i8 hq8).symm, upd_same]
  have M8 : Frs [p] (upd (upd H8 q8 (.lst [])) p (.ins D.C dx (putF "past" (.ref q8) (putF "last" (.int 0) (putF "laid" (.ref q6) (putF "codes" (.ref q5) (putF "code" (.ref l) (putF "grain" (.int g) (putF "base" v []))))))))) (upd (upd H8 q8 (.lst [])) p (.ins D.C dx (putF "past" (.ref q8) (putF "last" (.int 0) (putF "laid" (.ref q6) (putF "codes" (.ref q5) (putF "code" (.ref l) (putF "grain" (.int g) (putF "base" v []))))))))) := Frs.rf _ _
  generalize hH9 : upd (upd H8 q8 (.lst [])) p (.ins D.C dx (putF "past" (.ref q8) (putF "last" (.int 0) (putF "laid" (.ref q6) (putF "codes" (.ref q5) (putF "code" (.ref l) (putF "grain" (.int g) (putF "base" v [])))))))) = H9 at *
  walk_at "rd"
  rename_i q9 hq9
  have j9 : (upd H9 q9 (.lst [])) p = _ := in_new hq9 i9
  have K9 : Frs [p] H4 (upd H9 q9 (.lst [])) := G9.tr (Frs.ex (Evl.Ex.new hq9))
  refine ⟨p, D.C, dx, _, rfl, j9, hcl1, T.n_future, (by show 7 < 1000; decide), ?_⟩
  have G10 : Frs [p] H4 (upd (upd H9 q9 (.lst [])) p (.ins D.C dx (putF "future" (.ref q9) (putF "past" (.ref q8) (putF "last" (.int 0) (putF "laid" (.ref q6) (putF "codes" (.ref q5) (putF "code" (.ref l) (putF "grain" (.int g) (putF "base" v [])))))))))) := K9.tr (Frs.up mp)
  have N9 : Frs [p] H9 (upd (upd H9 q9 (.lst [])) p (.ins D.C dx (putF "future" (.ref q9) (putF "past" (.ref q8) (putF "last" (.int 0) (putF "laid" (.ref q6) (putF "codes" (.ref q5) (putF "code" (.ref l) (putF "grain" (.int g) (putF "base" v [])))))))))) := (Frs.ex (Evl.Ex.new hq9)).tr (Frs.up mp)
  have i10 : (upd (upd H9 q9 (.lst [])) p (.ins D.C dx (putF "future" (.ref q9) (putF "past" (.ref q8) (putF "last" (.int 0) (putF "laid" (.ref q6) (putF "codes" (.ref q5) (putF "code" (.ref l) (putF "grain" (.int g) (putF "base" v [])))))))))) p = _ := upd_same
  have v9 : (upd (upd H9 q9 (.lst [])) p (.ins D.C dx (putF "future" (.ref q9) (putF "past" (.ref q8) (putF "last" (.int 0) (putF "laid" (.ref q6) (putF "codes" (.ref q5) (putF "code" (.ref l) (putF "grain" (.int g) (putF "base" v [])))))))))) q9 = some (.lst []) := by rw [upd_ne (ne_of_none i9 hq9).symm, upd_same]
  have M9 : Frs [p] (upd (upd H9 q9 (.lst [])) p (.ins D.C dx (putF "future" (.ref q9) (putF "past" (.ref q8) (putF "last" (.int 0) (putF "laid" (.ref q6) (putF "codes" (.ref q5) (putF "code" (.ref l) (putF "grain" (.int g) (putF "base" v [])))))))))) (upd (upd H9 q9 (.lst [])) p (.ins D.C dx (putF "future" (.ref q9) (putF "past" (.ref q8) (putF "last" (.int 0) (putF "laid" (.ref q6) (putF "codes" (.ref q5) (putF "code" (.ref l) (putF "grain" (.int g) (putF "base" v [])))))))))) := Frs.rf _ _
  generalize hH10 : upd (upd H9 q9 (.lst [])) p (.ins D.C dx (putF "future" (.ref q9) (putF "past" (.ref q8) (putF "last" (.int 0) (putF "laid" (.ref q6) (putF "codes" (.ref q5) (putF "code" (.ref l) (putF "grain" (.int g) (putF "base" v []))))))))) = H10 at *
  walk_at "rd"
  have j10 := i10
  have K10 := G10
  refine ⟨p, D.C, dx, _, rfl, j10, hcl1, T.n_room, (by show 8 < 1000; decide), ?_⟩
  have G11 : Frs [p] H4 (upd H10 p (.ins D.C dx (putF "room" (.int 64) (putF "future" (.ref q9) (putF "past" (.ref q8) (putF "last" (.int 0) (putF "laid" (.ref q6) (putF "codes" (.ref q5) (putF "code" (.ref l) (putF "grain" (.int g) (putF "base" v []))))))))))) := K10.tr (Frs.up mp)
  have N10 : Frs [p] H10 (upd H10 p (.ins D.C dx (putF "room" (.int 64) (putF "future" (.ref q9) (putF "past" (.ref q8) (putF "last" (.int 0) (putF "laid" (.ref q6) (putF "codes" (.ref q5) (putF "code" (.ref l) (putF "grain" (.int g) (putF "base" v []))))))))))) := Frs.up mp
  have i11 : (upd H10 p (.ins D.C dx (putF "room" (.int 64) (putF "future" (.ref q9) (putF "past" (.ref q8) (putF "last" (.int 0) (putF "laid" (.ref q6) (putF "codes" (.ref q5) (putF "code" (.ref l) (putF "grain" (.int g) (putF "base" v []))))))))))) p = _ := upd_same
  generalize hH11 : upd H10 p (.ins D.C dx (putF "room" (.int 64) (putF "future" (.ref q9) (putF "past" (.ref q8) (putF "last" (.int 0) (putF "laid" (.ref q6) (putF "codes" (.ref q5) (putF "code" (.ref l) (putF "grain" (.int g) (putF "base" v [])))))))))) = H11 at *
  walk_at "rd"
  rename_i q11 hq11
  have j11 : (upd H11 q11 (.dK [])) p = _ := in_new hq11 i11
  have K11 : Frs [p] H4 (upd H11 q11 (.dK [])) := G11.tr (Frs.ex (Evl.Ex.new hq11))
  refine ⟨p, D.C, dx, _, rfl, j11, hcl1, T.n_shelf, (by show 9 < 1000; decide), ?_⟩
  have G12 : Frs [p] H4 (upd (upd H11 q11 (.dK [])) p (.ins D.C dx (putF "shelf" (.ref q11) (putF "room" (.int 64) (putF "future" (.ref q9) (putF "past" (.ref q8) (putF "last" (.int 0) (putF "laid" (.ref q6) (putF "codes" (.ref q5) (putF "code" (.ref l) (putF "grain" (.int g) (putF "base" v [])))))))))))) := K11.tr (Frs.up mp)
  have N11 : Frs [p] H11 (upd (upd H11 q11 (.dK [])) p (.ins D.C dx (putF "shelf" (.ref q11) (putF "room" (.int 64) (putF "future" (.ref q9) (putF "past" (.ref q8) (putF "last" (.int 0) (putF "laid" (.ref q6) (putF "codes" (.ref q5) (putF "code" (.ref l) (putF "grain" (.int g) (putF "base" v [])))))))))))) := (Frs.ex (Evl.Ex.new hq11)).tr (Frs.up mp)
  have i12 : (upd (upd H11 q11 (.dK [])) p (.ins D.C dx (putF "shelf" (.ref q11) (putF "room" (.int 64) (putF "future" (.ref q9) (putF "past" (.ref q8) (putF "last" (.int 0) (putF "laid" (.ref q6) (putF "codes" (.ref q5) (putF "code" (.ref l) (putF "grain" (.int g) (putF "base" v [])))))))))))) p = _ := upd_same
  have v11 : (upd (upd H11 q11 (.dK [])) p (.ins D.C dx (putF "shelf" (.ref q11) (putF "room" (.int 64) (putF "future" (.ref q9) (putF "past" (.ref q8) (putF "last" (.int 0) (putF "laid" (.ref q6) (putF "codes" (.ref q5) (putF "code" (.ref l) (putF "grain" (.int g) (putF "base" v [])))))))))))) q11 = some (.dK []) := by rw [upd_ne (ne_of_none i11 hq11).symm, upd_same]
  have M11 : Frs [p] (upd (upd H11 q11 (.dK [])) p (.ins D.C dx (putF "shelf" (.ref q11) (putF "room" (.int 64) (putF "future" (.ref q9) (putF "past" (.ref q8) (putF "last" (.int 0) (putF "laid" (.ref q6) (putF "codes" (.ref q5) (putF "code" (.ref l) (putF "grain" (.int g) (putF "base" v [])))))))))))) (upd (upd H11 q11 (.dK [])) p (.ins D.C dx (putF "shelf" (.ref q11) (putF "room" (.int 64) (putF "future" (.ref q9) (putF "past" (.ref q8) (putF "last" (.int 0) (putF "laid" (.ref q6) (putF "codes" (.ref q5) (putF "code" (.ref l) (putF "grain" (.int g) (putF "base" v [])))))))))))) := Frs.rf _ _
  generalize hH12 : upd (upd H11 q11 (.dK [])) p (.ins D.C dx (putF "shelf" (.ref q11) (putF "room" (.int 64) (putF "future" (.ref q9) (putF "past" (.ref q8) (putF "last" (.int 0) (putF "laid" (.ref q6) (putF "codes" (.ref q5) (putF "code" (.ref l) (putF "grain" (.int g) (putF "base" v []))))))))))) = H12 at *
  have fr : ∀ {X : Hp} {q : Addr} {o : HO}, Frs [p] H X → X p = some o → X q = none → H q = none := fun {X q o} f ip h => by
    cases c : H q with
    | none => rfl
    | some u =>
      by_cases m : q ∈ [p]
      · rw [List.mem_singleton.mp m, ip] at h; cases h
      · rw [f q u c m] at h; cases h
  have np : ∀ {X : Hp} {q : Addr} {o : HO}, X p = some o → X q = none → q ∉ [p] := fun ip h m => by
    rw [List.mem_singleton.mp m, ip] at h; cases h
  have t12 : Tst H4 H12 := fun a xs h => G12 a _ h (fun z => by rw [List.mem_singleton.mp z] at h; cases i4.symm.trans h)
  obtain ⟨us, hl1, hl2⟩ := hst
  have nl : l ∉ [p] := fun z => nlp (List.mem_singleton.mp z)
  walk_at "rd"
  rw [pf_new v g l q5 q6 q8 q9 q11 dx fs] at i12
  refine kk { dx := dx, v := v, g := g, code := l, codes := q5, laid := q6, last := 0, past := q8, fut := q9, shelf := q11, fs := fs, es := [], ps := [], nf := 0 } H12
    ⟨i12, ⟨us, G12 _ _ hl1 nl, pair_tst t12 hl2⟩, ⟨hall, hf0, hf1⟩, ⟨[], (N7.tr (N8.tr (N9.tr (N10.tr N11)))) _ _ v6 (np i6 hq6), .nil⟩, (fun _ z => nomatch z), Nat.zero_le _, ⟨[], (N9.tr (N10.tr N11)) _ _ v8 (np i8 hq8), Nat.zero_le _, .nil⟩, ⟨[], (N10.tr N11) _ _ v9 (np i9 hq9), rfl⟩, v11, ne_of_none v8 hq9, (ne_of_none (G8 _ _ hl1 nl) hq8).symm, (ne_of_none (G9 _ _ hl1 nl) hq9).symm⟩ rfl rfl rfl rfl
    (fr (F4.tr G8) i8 hq8) (fr (F4.tr G9) i9 hq9) (fr (F4.tr G11) i11 hq11) (F4.tr G12)

end Kw
set_option Elab.async false
set_option linter.all false
set_option maxRecDepth 100000
set_option maxHeartbeats 2000000
namespace Kw
open PySem PySem.Spec PyProof.Rows L2
local macro_rules | `(tactic| walk_at "in") => `(tactic| repeat (first | assumption | refine in_new (by assumption) ?_ | refine in_ex (by assumption) ?_))
local macro_rules | `(tactic| walk_at "lk") => `(tactic| first | exact lk_laid _ | exact lk_code _ | exact lk_grain _ | exact lk_past _ | exact lk_future _ | exact lk_shelf _ | exact lk_last _)
local macro_rules | `(tactic| walk_at "tp") => `(tactic| repeat (first | assumption | exact tp_up | refine tp_new (by assumption) ?_ | refine tp_lst (by assumption) ?_ | refine tp_ex (by assumption) ?_ | refine tp_mv (by assumption) ?_))
local macro_rules | `(tactic| walk_at "sq") => `(tactic| repeat (first | assumption | exact sq_up | exact sl_up | exact tp_sq (by assumption) | exact Evl.sq_of (by assumption) | refine sq_new (by assumption) ?_ | refine sl_new (by assumption) ?_ | refine sq_lst (by assumption) ?_ | refine sq_ex (by assumption) ?_ | refine sl_ex (by assumption) ?_ | refine sq_mv (by assumption) ?_))
local macro_rules | `(tactic| walk_at "ex") => `(tactic| repeat (first | assumption | exact Ex.rfl' _ | refine Ex.nw ?_ (by assumption) | refine Ex.tr ?_ (by assumption)))
local macro_rules | `(tactic| walk_at "cond") => `(tactic| first | decide | exact Or.inl ⟨by omega, by omega⟩ | exact Or.inr ⟨by omega, by omega⟩ | exact ⟨by omega, by omega⟩ | omega)
local macro_rules | `(tactic| walk_at "rd1") => `(tactic| first
  | refine ⟨_, rfl, ?_⟩
  | refine ⟨_, _, rfl, rfl, ?_⟩
  | refine ⟨_, _, rfl, ?_⟩
  | refine ⟨rfl, ?_⟩
  | refine ⟨_, _, _, rfl, ?_⟩
  | (refine' ⟨_, _, _, _, rfl, rfl, ?h, ?ha, ?q⟩; (case h => walk_at "sq"); (case ha => first | assumption | rfl | exact at_c0 _ _ | exact at_c1 _ _ _ | exact at_c2 _ _ _ _ | (refine at_vals ?_; omega) | exact atI_nat (by assumption)))
  | refine ⟨_, _, _, _, rfl, ?_⟩
  | refine ⟨_, _, _, _, _, rfl, ?_⟩
  | (refine' ⟨_, _, rfl, ?h, ?ha, ?q⟩; (case h => walk_at "sq"); (case ha => first | rfl | exact Nat.le_of_ble_eq_true rfl))
  | refine Or.inr ⟨_, rfl, ?_⟩
  | (refine' ⟨_, _, rfl, Or.inr ?h, ?q⟩; (case h => walk_at "sq"))
  | (refine' ⟨_, _, rfl, Or.inl ?h, ?q⟩; (case h => walk_at "sq"))
  | refine ⟨_, _, _, _, _, rfl, .ty _, .base (.int _), kit_ty kit_ii, ?_⟩
  | refine ⟨_, _, _, _, _, rfl, .ty _, .base (.int _), kit_ty kit_ib, ?_⟩
  | refine ⟨_, _, _, _, _, rfl, .ty _, .base (.str _), kit_ty kit_ss, ?_⟩
  | refine ⟨_, _, _, _, _, rfl, .ty _, .base (.tup (by assumption)), kit_ty kit_tt, ?_⟩
  | with_reducible refine iteT ?_
  | with_reducible refine iteF ?_
  | refine ite_yes (by first | decide | omega) ?_
  | refine ite_no (by first | decide | omega) ?_
  | refine ite_no (fun z => absurd (V.str.inj z) (by assumption)) ?_
  | refine ite_no (fun z => absurd (V.int.inj z) (by omega)) ?_
  | refine ite_yes (congrArg V.int (by omega)) ?_
  | refine ite_nyes (by first | decide | omega) ?_
  | refine ite_nno (by first | decide | omega) ?_
  | (refine' And.intro (Or.inl ⟨rfl, _, ?h⟩) ?q; (case h => first | exact SqL.of (by first | assumption | exact upd_same) | walk_at "sq"))
  | (refine' And.intro ?h ?q; (case h => exact Evl.sz_of (Nat.le_of_ble_eq_true rfl)))
  | refine fun p (hp : (_ : Hp) p = none) => ?_
  | (refine' ⟨_, _, rfl, Or.inr ?h, rfl, rfl, ?q⟩; (case h => walk_at "sq"))
  | (refine' ⟨_, _, rfl, Or.inl ?h, rfl, rfl, ?q⟩; (case h => walk_at "sq"))
  | (refine' ⟨_, _, _, _, _, rfl, ?h, ?c, ?n, ?l, ?q⟩; (case h => walk_at "in"); (case c => assumption); (case n => assumption); (case l => walk_at "lk"))
  | (refine' ⟨_, _, _, rfl, ?h, ?l, ?q⟩; (case h => walk_at "in"); (case l => exact lk_none (by decide) _))
  | (refine' And.intro ?h ?q; (case h => walk_at "cond")))
local macro_rules | `(tactic| walk_at "rd") => `(tactic| repeat walk_at "rd1")
local macro_rules | `(tactic| walk_at "rs") => `(tactic| repeat' (first | walk_at "rd1" | refine ite2d (fun h => ?_) (fun h => ?_) | refine ite2n (fun h => ?_) (fun h => ?_) | refine ite2 (fun h => ?_) (fun h => ?_)))
local macro_rules | `(tactic| walk_at "pu") => `(tactic| repeat (first | assumption | refine purse_new ?_ (by assumption)))
local macro_rules | `(tactic| walk_at "mv") => `(tactic| repeat (first | assumption | exact Mv.rf _ _ | refine Mv.nw ?_ (by assumption) | refine Mv.tr ?_ (by assumption)))

variable {P : Program} {w : World} {K : PySem.W.Frag} {mg : Str → Option Value} {base : Heap} {D : Ad}
/-! ### points_of -/
def rowP (x b : Int) (n : Nat) : List (Int × Int) := (List.range n).map fun j => (x, b + (j : Nat))
def gridP (a b : Int) (m n : Nat) : List (Int × Int) := (List.range m).flatMap fun i => rowP (a + (i : Nat)) b n
theorem rowP_succ (x b : Int) (n : Nat) : rowP x b (n + 1) = rowP x b n ++ [(x, b + (n : Nat))] := by
  unfold rowP; rw [List.range_succ, List.map_append]; rfl
theorem gridP_succ (a b : Int) (m n : Nat) : gridP a b (m + 1) n = gridP a b m n ++ rowP (a + (m : Nat)) b n := by
  unfold gridP; rw [List.range_succ, List.flatMap_append]; simp
theorem rowP_len (x b : Int) (n : Nat) : (rowP x b n).length = n := by unfold rowP; simp
theorem gridP_len (a b : Int) (n : Nat) : ∀ m, (gridP a b m n).length = m * n
  | 0 => by simp [gridP]
  | m + 1 => by rw [gridP_succ, List.length_append, gridP_len a b n m, rowP_len, Nat.add_mul, Nat.one_mul]
def spPoints (K : PySem.W.Frag) : Sp := fun vs H Q _ => ∃ (q : Addr) (a b c d : Int), vs = [.ref q] ∧ SqT K H q [.int a, .int b, .int c, .int d] ∧ (-1000000 ≤ a ∧ a ≤ c ∧ c ≤ a + 20 ∧ c ≤ 1000000 ∧ -1000000 ≤ b ∧ b ≤ d ∧ d ≤ b + 20 ∧ d ≤ 1000000) ∧
  ∀ (l : Addr) (H' : Hp), Ex H H' → H l = none → RgL H' l (gridP a b (c + 1 - a).toNat (d + 1 - b).toNat) → Q (.ref l) H'
theorem h_points_of (F : DefAt K mg "points_of" s_points_of [] []) (T : Txt K w mg D) : Has P w K mg base 1 "points_of" (spPoints K) [] := by
  refine has_of F sc_points_of (fun _ _ _ _ _ _ us hl => match us, hl with | [_], _ => rfl) ?_ ?_
  · rintro _ _ _ _ ⟨_, _, _, _, _, rfl, _⟩; rfl
  · rintro f cdv A outer s0 H vs Q E hr ⟨q, a, b, c, d, rfl, hq, hb, kk⟩
    refine ⟨_, pss_cons (ps_asg (pv 0) (pg_tup rfl (pgs_cons (pg_name (i := 1) sc_points_of.nd rfl (Or.inl rfl)) (pgs_cons (pg_name (i := 2) sc_points_of.nd rfl (Or.inr rfl)) (pgs_cons (pg_name (i := 3) sc_points_of.nd rfl (Or.inl rfl)) (pgs_cons (pg_name (i := 4) sc_points_of.nd rfl (Or.inr rfl)) (pgs_nil)))))))
      (pss_one (ps_ret (pe_lc2 (own := [("x", 5), ("z", 6)]) (vs1 := [6]) (g := (gName 5)) (g1 := (gName 6)) rfl sc_points_of.nd (pi_range2 (by rfl) T.f_range (pa_cons (pv 1) (pa_cons (pe_op op_add (pv 3) (pe_int)) (pa_nil)))) (blkOk_by (own := [("x", 5), ("z", 6)]) (N := nm_points_of) (sc := defScope s_points_of) (by decide +kernel)) (by decide) (fun _ _ _ _ _ => pg_name (i := 5) sc_points_of.nd rfl (Or.inl rfl)) (fun _ _ _ _ _ => pts_nil) (fun _ _ _ _ _ => pi_range2 (by rfl) T.f_range (pa_cons (pv 2) (pa_cons (pe_op op_add (pv 4) (pe_int)) (pa_nil)))) (fun _ _ _ _ _ => pg_name (i := 6) sc_points_of.nd rfl (Or.inl rfl)) (fun _ _ _ _ _ => pts_nil) (fun _ _ _ _ _ => pe_tup (pa_cons (pv 5) (pa_cons (pv 6) (pa_nil))))))), ?_⟩
    walk_at "rd"
    rename_i l hl
    generalize hσ : List.set _ 4 (some (V.int d)) = σ
    have eσ : σ = [some (.ref q), some (.int a), some (.int b), some (.int c), some (.int d), none, none] := hσ.symm
    clear hσ
    subst eσ
    have hm : (c + 1 - a).toNat ≤ 21 := by omega
    have hn : (d + 1 - b).toNat ≤ 21 := by omega
    refine lw_range (fun i H' => Here (Ex H H' ∧ RgL H' l (gridP a b i (d + 1 - b).toNat))) (.it ⟨by walk_at "ex", [], upd_same, .nil⟩) ?_ ?_
    · intro i H' hi hh
      obtain ⟨he, us, hus, hp⟩ := hh.get
      walk_at "rd"
      refine lw_range (fun j H'' => Here (Ex H H'' ∧ RgL H'' l (gridP a b i (d + 1 - b).toNat ++ rowP (a + (i : Nat)) b j))) (.it ⟨he, us, hus, by unfold rowP; rw [List.range_zero, List.map_nil, List.append_nil]; exact hp⟩) ?_ ?_
      · intro j H'' hj hh2
        obtain ⟨he2, us2, hus2, hp2⟩ := hh2.get
        have hlen := pair_len hp2
        rw [List.length_append, gridP_len, rowP_len] at hlen
        have hmul : i * (d + 1 - b).toNat ≤ 21 * 21 := Nat.mul_le_mul (by omega) hn
        walk_at "rd"
        rename_i t ht
        have nlt : l ≠ t := ne_of_none hus2 ht
        refine ⟨us2, by rw [upd_ne nlt]; exact hus2, Evl.sz_lt (by omega), .it ⟨Ex.mu (Ex.nw he2 ht) hl, us2 ++ [.ref t], upd_same, ?_⟩⟩
        rw [rowP_succ, ← List.append_assoc]
        exact rgl_snoc (fun p xs h => tp_lst (by rw [upd_ne nlt]; exact hus2) (tp_new ht h)) hp2 (tp_lst (by rw [upd_ne nlt]; exact hus2) tp_up)
      · intro H'' hh2
        obtain ⟨he2, hr2⟩ := hh2.get
        exact .it ⟨he2, by rw [gridP_succ]; exact hr2⟩
    · intro H' hh
      obtain ⟨he, hr2⟩ := hh.get
      exact kk l H' he hl hr2

end Kw
set_option Elab.async false
set_option linter.all false
set_option maxRecDepth 100000
set_option maxHeartbeats 2000000
namespace Kw
open PySem PySem.Spec PyProof.Rows L2
local macro_rules | `(tactic| walk_at "in") => `(tactic| repeat (first | assumption | refine in_new (by assumption) ?_ | refine in_ex (by assumption) ?_))
local macro_rules | `(tactic| walk_at "lk") => `(tactic| first | exact lk_laid _ | exact lk_code _ | exact lk_grain _ | exact lk_past _ | exact lk_future _ | exact lk_shelf _ | exact lk_last _)
local macro_rules | `(tactic| walk_at "tp") => `(tactic| repeat (first | assumption | exact tp_up | refine tp_new (by assumption) ?_ | refine tp_lst (by assumption) ?_ | refine tp_ex (by assumption) ?_ | refine tp_mv (by assumption) ?_))
local macro_rules | `(tactic| walk_at "sq") => `(tactic| repeat (first | assumption | exact sq_up | exact sl_up | exact tp_sq (by assumption) | exact Evl.sq_of (by assumption) | refine sq_new (by assumption) ?_ | refine sl_new (by assumption) ?_ | refine sq_lst (by assumption) ?_ | refine sq_ex (by assumption) ?_ | refine sl_ex (by assumption) ?_ | refine sq_mv (by assumption) ?_))
local macro_rules | `(tactic| walk_at "ex") => `(tactic| repeat (first | assumption | exact Ex.rfl' _ | refine Ex.nw ?_ (by assumption) | refine Ex.tr ?_ (by assumption)))
local macro_rules | `(tactic| walk_at "cond") => `(tactic| first | decide | exact Or.inl ⟨by omega, by omega⟩ | exact Or.inr ⟨by omega, by omega⟩ | exact ⟨by omega, by omega⟩ | omega)
local macro_rules | `(tactic| walk_at "rd1") => `(tactic| first
  | refine ⟨_, rfl, ?_⟩
  | refine ⟨_, _, rfl, rfl, ?_⟩
  | refine ⟨_, _, rfl, ?_⟩
  | refine ⟨rfl, ?_⟩
  | refine ⟨_, _, _, rfl, ?_⟩
  | (refine' ⟨_, _, _, _, rfl, rfl, ?h, ?ha, ?q⟩; (case h => walk_at "sq"); (case ha => first | assumption | rfl | exact at_c0 _ _ | exact at_c1 _ _ _ | exact at_c2 _ _ _ _ | (refine at_vals ?_; omega) | exact atI_nat (by assumption)))
  | refine ⟨_, _, _, _, rfl, ?_⟩
  | refine ⟨_, _, _, _, _, rfl, ?_⟩
  | (refine' ⟨_, _, rfl, ?h, ?ha, ?q⟩; (case h => walk_at "sq"); (case ha => first | rfl | exact Nat.le_of_ble_eq_true rfl))
  | refine Or.inr ⟨_, rfl, ?_⟩
  | (refine' ⟨_, _, rfl, Or.inr ?h, ?q⟩; (case h => walk_at "sq"))
  | (refine' ⟨_, _, rfl, Or.inl ?h, ?q⟩; (case h => walk_at "sq"))
  | refine ⟨_, _, _, _, _, rfl, .ty _, .base (.int _), kit_ty kit_ii, ?_⟩
  | refine ⟨_, _, _, _, _, rfl, .ty _, .base (.int _), kit_ty kit_ib, ?_⟩
  | refine ⟨_, _, _, _, _, rfl, .ty _, .base (.str _), kit_ty kit_ss, ?_⟩
  | refine ⟨_, _, _, _, _, rfl, .ty _, .base (.tup (by assumption)), kit_ty kit_tt, ?_⟩
  | with_reducible refine iteT ?_
  | with_reducible refine iteF ?_
  | refine ite_yes (by first | decide | omega) ?_
  | refine ite_no (by first | decide | omega) ?_
  | refine ite_no (fun z => absurd (V.str.inj z) (by assumption)) ?_
  | refine ite_no (fun z => absurd (V.int.inj z) (by omega)) ?_
  | refine ite_yes (congrArg V.int (by omega)) ?_
  | refine ite_nyes (by first | decide | omega) ?_
  | refine ite_nno (by first | decide | omega) ?_
  | (refine' And.intro (Or.inl ⟨rfl, _, ?h⟩) ?q; (case h => first | exact SqL.of (by first | assumption | exact upd_same) | walk_at "sq"))
  | (refine' And.intro ?h ?q; (case h => exact Evl.sz_of (Nat.le_of_ble_eq_true rfl)))
  | refine fun p (hp : (_ : Hp) p = none) => ?_
  | (refine' ⟨_, _, rfl, Or.inr ?h, rfl, rfl, ?q⟩; (case h => walk_at "sq"))
  | (refine' ⟨_, _, rfl, Or.inl ?h, rfl, rfl, ?q⟩; (case h => walk_at "sq"))
  | (refine' ⟨_, _, _, _, _, rfl, ?h, ?c, ?n, ?l, ?q⟩; (case h => walk_at "in"); (case c => assumption); (case n => assumption); (case l => walk_at "lk"))
  | (refine' ⟨_, _, _, rfl, ?h, ?l, ?q⟩; (case h => walk_at "in"); (case l => exact lk_none (by decide) _))
  | (refine' And.intro ?h ?q; (case h => walk_at "cond")))
local macro_rules | `(tactic| walk_at "rd") => `(tactic| repeat walk_at "rd1")
local macro_rules | `(tactic| walk_at "rs") => `(tactic| repeat' (first | walk_at "rd1" | refine ite2d (fun h => ?_) (fun h => ?_) | refine ite2n (fun h => ?_) (fun h => ?_) | refine ite2 (fun h => ?_) (fun h => ?_)))
local macro_rules | `(tactic| walk_at "pu") => `(tactic| repeat (first | assumption | refine purse_new ?_ (by assumption)))
local macro_rules | `(tactic| walk_at "mv") => `(tactic| repeat (first | assumption | exact Mv.rf _ _ | refine Mv.nw ?_ (by assumption) | refine Mv.tr ?_ (by assumption)))

variable {P : Program} {w : World} {K : PySem.W.Frag} {mg : Str → Option Value} {base : Heap} {D : Ad}
theorem valV_notin {κ : Type} [DecidableEq κ] {kvs : List (κ × V)} {k : κ} (h : k ∉ kvs.map (·.1)) : valV kvs k = none := by
  induction kvs with
  | nil => rfl
  | cons a l ih =>
    rw [List.map_cons, List.mem_cons, not_or] at h
    rw [valV_neg (fun e => h.1 e.symm)]
    exact ih h.2
theorem kPt_inj {p q : Int × Int} (h : kPt p = kPt q) : p = q := by
  unfold kPt at h
  injection h with h1 h2
  injection h2 with h2 _
  injection h1 with h1
  injection h2 with h2
  exact Prod.ext h1 h2
theorem rowP_mem {x b : Int} {n : Nat} {p : Int × Int} : p ∈ rowP x b n ↔ p.1 = x ∧ b ≤ p.2 ∧ p.2 < b + n := by
  unfold rowP
  simp only [List.mem_map, List.mem_range]
  constructor
  · rintro ⟨j, hj, rfl⟩; exact ⟨rfl, by simp; omega, by simp; omega⟩
  · rintro ⟨h1, h2, h3⟩
    exact ⟨(p.2 - b).toNat, by omega, Prod.ext h1.symm (by simp; omega)⟩
theorem gridP_mem {a b : Int} {m n : Nat} {p : Int × Int} : p ∈ gridP a b m n ↔ (a ≤ p.1 ∧ p.1 < a + m) ∧ b ≤ p.2 ∧ p.2 < b + n := by
  unfold gridP
  simp only [List.mem_flatMap, List.mem_range, rowP_mem]
  constructor
  · rintro ⟨i, hi, h1, h2⟩; exact ⟨⟨by omega, by omega⟩, h2⟩
  · rintro ⟨⟨h1, h2⟩, h3⟩; exact ⟨(p.1 - a).toNat, by omega, by omega, h3⟩
theorem rowP_nd (x b : Int) : ∀ n, (rowP x b n).Nodup
  | 0 => by simp [rowP]
  | n + 1 => by
    rw [rowP_succ, List.nodup_append]
    refine ⟨rowP_nd x b n, by simp, ?_⟩
    intro p hp q hq e
    rw [List.mem_singleton.mp hq] at e
    have := rowP_mem.mp hp
    rw [e] at this
    simp at this
theorem gridP_nd (a b : Int) (n : Nat) : ∀ m, (gridP a b m n).Nodup
  | 0 => by simp [gridP]
  | m + 1 => by
    rw [gridP_succ, List.nodup_append]
    refine ⟨gridP_nd a b n m, rowP_nd _ _ _, ?_⟩
    intro p hp q hq e
    have h1 := gridP_mem.mp hp
    have h2 := rowP_mem.mp hq
    rw [e] at h1
    omega
/-! ### heights_in -/
def hmap (h : Int → Int → Int) (ps : List (Int × Int)) : List (List Key × V) := ps.map fun p => (kPt p, V.int (h p.1 p.2))
def spHeights (K : PySem.W.Frag) (D : Ad) : Sp := fun vs H Q _ => ∃ (s q : Addr) (L : Lnd) (a b c d : Int), vs = [.ref s, .ref q] ∧ LandAt D H s L ∧ SqT K H q [.int a, .int b, .int c, .int d] ∧ (-1000000 ≤ a ∧ a ≤ c ∧ c ≤ a + 20 ∧ c ≤ 1000000 ∧ -1000000 ≤ b ∧ b ≤ d ∧ d ≤ b + 20 ∧ d ≤ 1000000) ∧
  ∀ (t : Addr) (H' : Hp), Ex H H' → H t = none → H' t = some (.dT (hmap L.h (gridP a b (c + 1 - a).toNat (d + 1 - b).toNat))) → Q (.ref t) H'
theorem h_heights_in (F : DefAt K mg "heights_in" s_heights_in [] []) (T : Txt K w mg D) (G_points_of : Has P w K mg base 1 "points_of" (spPoints K) []) (G_height : HasM P w K mg base 26 D.C "height" (spHAt D)) : Has P w K mg base 27 "heights_in" (spHeights K D) [] := by
  refine has_of F sc_heights_in (fun _ _ _ _ _ _ us hl => match us, hl with | [_, _], _ => rfl) ?_ ?_
  · rintro _ _ _ _ ⟨_, _, _, _, _, _, _, rfl, _⟩; rfl
  · rintro f cdv A outer s0 H vs Q E hr ⟨s, q, L, a, b, c, d, rfl, hL, hq, hb, kk⟩
    have hu := hu_of hr
    refine ⟨_, pss_one (ps_ret (pe_dcT hu (own := [("x", 2), ("z", 3)]) (g := (gTup K 2 (gCons (gName 2) (gCons (gName 3) (gNil))))) rfl sc_heights_in.nd (pi_list (pe_c G_points_of (hr.mono (by decide)) (by rfl) (pa_cons (pv 1) (pa_nil)))) (blkOk_by (own := [("x", 2), ("z", 3)]) (N := nm_heights_in) (sc := defScope s_heights_in) (by decide +kernel)) (fun _ _ _ _ _ => pg_tup rfl (pgs_cons (pg_name (i := 2) sc_heights_in.nd rfl (Or.inl rfl)) (pgs_cons (pg_name (i := 3) sc_heights_in.nd rfl (Or.inl rfl)) (pgs_nil)))) (fun _ _ _ _ _ => pts_nil) (fun _ _ _ _ _ => pe_tup (pa_cons (pv 2) (pa_cons (pv 3) (pa_nil)))) (fun _ _ _ _ _ => pe_m G_height (hr.mono (by decide)) T.cl (pv 0) (pa_cons (pv 2) (pa_cons (pv 3) (pa_nil)))))), ?_⟩
    walk_at "rd"
    refine ⟨q, a, b, c, d, rfl, hq, hb, fun l H1 e1 hl hr => ?_⟩
    obtain ⟨us, hus, hp⟩ := hr
    walk_at "rd"
    refine ⟨⟨us, Evl.sq_of hus⟩, ?_⟩
    intro t ht
    have hpl := pair_len hp
    generalize hG : gridP a b (c + 1 - a).toNat (d + 1 - b).toNat = ps at *
    have hnd : ps.Nodup := by rw [← hG]; exact gridP_nd ..
    have hmem : ∀ p ∈ ps, (a ≤ p.1 ∧ p.1 ≤ c) ∧ b ≤ p.2 ∧ p.2 ≤ d := fun p hp => by
      rw [← hG] at hp
      have := gridP_mem.mp hp
      omega
    have hlen : ps.length ≤ 441 := by
      rw [← hG, gridP_len]
      have h1 : (c + 1 - a).toNat ≤ 21 := by omega
      have h2 : (d + 1 - b).toNat ≤ 21 := by omega
      have := Nat.mul_le_mul h1 h2
      omega
    have ntH : H t = none := e1.fr ht
    have L1 := hL.ex e1
    refine lw_list (K := K) (a := l) (xs := us) (fun i H' => Here (Ex H1 H' ∧ H' t = some (.dT (hmap L.h (ps.take i))))) (.it ⟨Ex.nw (Ex.rfl' H1) ht, upd_same⟩) (fun i H' _ hh => sl_ex hh.get.1 (Evl.sq_of hus)) ?_ ?_
    · intro i u H' hu' hh
      obtain ⟨he, hd⟩ := hh.get
      obtain ⟨p, hpi, r, rfl, hr⟩ := pair_get hp hu'
      have hr' := tp_ex he hr
      have hb2 := hmem p (List.mem_of_getElem? hpi)
      have hi : i < ps.length := (List.getElem?_eq_some_iff.mp hpi).1
      have LL := L1.ex he
      have hins := LL.ins
      walk_at "rd"
      rename_i r2 hr2
      refine ⟨s, L, p.1, p.2, rfl, LL.ex (Ex.nw (Ex.rfl' H') hr2), by omega, fun H2 e2 => ?_⟩
      have hd2 : H2 t = some (.dT (hmap L.h (ps.take i))) := e2 _ _ ((Evl.Ex.new hr2) _ _ hd)
      refine ⟨_, kPt p, r2, rfl, e2 _ _ upd_same, hd2, ?_, ?_⟩
      · rw [sizeLine_eq]; unfold hmap; rw [List.length_map, List.length_take]; omega
      · have et : ps.take (i + 1) = ps.take i ++ [p] := take_snoc hpi
        have hnot : kPt p ∉ (hmap L.h (ps.take i)).map (·.1) := fun hm => by
          unfold hmap at hm
          rw [List.map_map] at hm
          obtain ⟨p', hp', e⟩ := List.mem_map.mp hm
          have := kPt_inj e
          subst this
          rw [← List.take_append_drop (i + 1) ps, et] at hnd
          have h1 := (List.nodup_append.mp (List.nodup_append.mp hnd).1).2.2
          exact h1 p' hp' p' (List.mem_singleton.mpr rfl) rfl
        rw [putK_new _ (valV_notin hnot)]
        refine .it ⟨Ex.mu ((Ex.nw he hr2).tr e2) ht, ?_⟩
        rw [et]
        unfold hmap
        rw [List.map_append]
        exact upd_same
    · intro H' hh
      obtain ⟨he, hd⟩ := hh.get
      rw [List.take_of_length_le (by omega)] at hd
      exact kk t H' (e1.tr he) ntH hd


end Kw
set_option Elab.async false
set_option linter.all false
set_option maxRecDepth 100000
set_option maxHeartbeats 2000000
namespace Kw
open PySem PySem.Spec PyProof.Rows L2
local macro_rules | `(tactic| walk_at "in") => `(tactic| repeat (first | assumption | refine in_new (by assumption) ?_ | refine in_ex (by assumption) ?_))
local macro_rules | `(tactic| walk_at "lk") => `(tactic| first | exact lk_laid _ | exact lk_code _ | exact lk_grain _ | exact lk_past _ | exact lk_future _ | exact lk_shelf _ | exact lk_last _)
local macro_rules | `(tactic| walk_at "tp") => `(tactic| repeat (first | assumption | exact tp_up | refine tp_new (by assumption) ?_ | refine tp_lst (by assumption) ?_ | refine tp_ex (by assumption) ?_ | refine tp_mv (by assumption) ?_))
local macro_rules | `(tactic| walk_at "sq") => `(tactic| repeat (first | assumption | exact sq_up | exact sl_up | exact tp_sq (by assumption) | exact Evl.sq_of (by assumption) | refine sq_new (by assumption) ?_ | refine sl_new (by assumption) ?_ | refine sq_lst (by assumption) ?_ | refine sq_ex (by assumption) ?_ | refine sl_ex (by assumption) ?_ | refine sq_mv (by assumption) ?_))
local macro_rules | `(tactic| walk_at "ex") => `(tactic| repeat (first | assumption | exact Ex.rfl' _ | refine Ex.nw ?_ (by assumption) | refine Ex.tr ?_ (by assumption)))
local macro_rules | `(tactic| walk_at "cond") => `(tactic| first | decide | exact Or.inl ⟨by omega, by omega⟩ | exact Or.inr ⟨by omega, by omega⟩ | exact ⟨by omega, by omega⟩ | omega)
local macro_rules | `(tactic| walk_at "rd1") => `(tactic| first
  | refine ⟨_, rfl, ?_⟩
  | refine ⟨_, _, rfl, rfl, ?_⟩
  | refine ⟨_, _, rfl, ?_⟩
  | refine ⟨rfl, ?_⟩
  | refine ⟨_, _, _, rfl, ?_⟩
  | (refine' ⟨_, _, _, _, rfl, rfl, ?h, ?ha, ?q⟩; (case h => walk_at "sq"); (case ha => first | assumption | rfl | exact at_c0 _ _ | exact at_c1 _ _ _ | exact at_c2 _ _ _ _ | (refine at_vals ?_; omega) | exact atI_nat (by assumption)))
  | refine ⟨_, _, _, _, rfl, ?_⟩
  | refine ⟨_, _, _, _, _, rfl, ?_⟩
  | (refine' ⟨_, _, rfl, ?h, ?ha, ?q⟩; (case h => walk_at "sq"); (case ha => first | rfl | exact Nat.le_of_ble_eq_true rfl))
  | refine Or.inr ⟨_, rfl, ?_⟩
  | (refine' ⟨_, _, rfl, Or.inr ?h, ?q⟩; (case h => walk_at "sq"))
  | (refine' ⟨_, _, rfl, Or.inl ?h, ?q⟩; (case h => walk_at "sq"))
  | refine ⟨_, _, _, _, _, rfl, .ty _, .base (.int _), kit_ty kit_ii, ?_⟩
  | refine ⟨_, _, _, _, _, rfl, .ty _, .base (.int _), kit_ty kit_ib, ?_⟩
  | refine ⟨_, _, _, _, _, rfl, .ty _, .base (.str _), kit_ty kit_ss, ?_⟩
  | refine ⟨_, _, _, _, _, rfl, .ty _, .base (.tup (by assumption)), kit_ty kit_tt, ?_⟩
  | with_reducible refine iteT ?_
  | with_reducible refine iteF ?_
  | refine ite_yes (by first | decide | omega) ?_
  | refine ite_no (by first | decide | omega) ?_
  | refine ite_no (fun z => absurd (V.str.inj z) (by assumption)) ?_
  | refine ite_no (fun z => absurd (V.int.inj z) (by omega)) ?_
  | refine ite_yes (congrArg V.int (by omega)) ?_
  | refine ite_nyes (by first | decide | omega) ?_
  | refine ite_nno (by first | decide | omega) ?_
  | (refine' And.intro (Or.inl ⟨rfl, _, ?h⟩) ?q; (case h => first | exact SqL.of (by first | assumption | exact upd_same) | walk_at "sq"))
  | (refine' And.intro ?h ?q; (case h => exact Evl.sz_of (Nat.le_of_ble_eq_true rfl)))
  | refine fun p (hp : (_ : Hp) p = none) => ?_
  | (refine' ⟨_, _, rfl, Or.inr ?h, rfl, rfl, ?q⟩; (case h => walk_at "sq"))
  | (refine' ⟨_, _, rfl, Or.inl ?h, rfl, rfl, ?q⟩; (case h => walk_at "sq"))
  | (refine' ⟨_, _, _, _, _, rfl, ?h, ?c, ?n, ?l, ?q⟩; (case h => walk_at "in"); (case c => assumption); (case n => assumption); (case l => walk_at "lk"))
  | (refine' ⟨_, _, _, rfl, ?h, ?l, ?q⟩; (case h => walk_at "in"); (case l => exact lk_none (by decide) _))
  | (refine' And.intro ?h ?q; (case h => walk_at "cond")))
local macro_rules | `(tactic| walk_at "rd") => `(tactic| repeat walk_at "rd1")
local macro_rules | `(tactic| walk_at "rs") => `(tactic| repeat' (first | walk_at "rd1" | refine ite2d (fun h => ?_) (fun h => ?_) | refine ite2n (fun h => ?_) (fun h => ?_) | refine ite2 (fun h => ?_) (fun h => ?_)))
local macro_rules | `(tactic| walk_at "pu") => `(tactic| repeat (first | assumption | refine purse_new ?_ (by assumption)))
local macro_rules | `(tactic| walk_at "mv") => `(tactic| repeat (first | assumption | exact Mv.rf _ _ | refine Mv.nw ?_ (by assumption) | refine Mv.tr ?_ (by assumption)))

variable {P : Program} {w : World} {K : PySem.W.Frag} {mg : Str → Option Value} {base : Heap} {D : Ad}
/-! ### must_within, must_spring -/
def spWithin (K : PySem.W.Frag) : Sp := fun vs H Q _ => ∃ (q l s : Addr) (a b c d x z : Int), vs = [.ref q, .ref l] ∧ SqT K H q [.int a, .int b, .int c, .int d] ∧ H l = some (.lst [.ref s]) ∧ SqT K H s [.int x, .int z] ∧ inBx a b c d x z = true ∧ ∀ H', Ex H H' → Q .non H'
theorem h_must_within (F : DefAt K mg "must_within" s_must_within [] []) (T : Txt K w mg D) (G_holds : Has P w K mg base 1 "holds" (spHolds K) []) : Has P w K mg base 2 "must_within" (spWithin K) [] := by
  refine has_of F sc_must_within (fun _ _ _ _ _ _ us hl => match us, hl with | [_, _], _ => rfl) ?_ ?_
  · rintro _ _ _ _ ⟨_, _, _, _, _, _, _, _, _, rfl, _⟩; rfl
  · rintro f cdv A outer s0 H vs Q E hr ⟨q, l, s, a, b, c, d, x, z, rfl, hq, hl, hs, hin, kk⟩
    refine ⟨_, pss_one (ps_for PassesOwn.never rfl (pi_list (pv 1)) (pg_name (i := 2) sc_must_within.nd rfl (Or.inl rfl)) (pss_one (ps_if (pt_not (pt_val (pe_c G_holds (hr.mono (by decide)) (by rfl) (pa_cons (pv 0) (pa_cons (pv 2) (pa_nil)))))) (pss_never) (pss_nil)))), ?_⟩
    walk_at "rd"
    refine ⟨⟨_, Evl.sq_of hl⟩, ?_⟩
    refine for_list (K := K) (a := l) (xs := [.ref s]) (fun i σ H' => Here (H' = H ∧ ∃ r, σ = [some (.ref q), some (.ref l), r])) (.it ⟨rfl, _, rfl⟩) (fun i σ H' _ hh => by rw [hh.get.1]; exact Evl.sq_of hl) ?_ ?_
    · intro i u σ H' hu hh
      obtain ⟨rfl, r, rfl⟩ := hh.get
      obtain rfl : u = .ref s := by
        match i, hu with
        | 0, h => exact (Option.some.inj h).symm
      walk_at "rd"
      refine ⟨q, s, a, b, c, d, x, z, rfl, hq, hs, ?_⟩
      rw [hin]
      walk_at "rd"
      exact .it ⟨rfl, _, rfl⟩
    · intro σ H' hh
      obtain ⟨rfl, r, rfl⟩ := hh.get
      walk_at "rd"
      exact kk _ (Ex.rfl' _)
def gApp : List V → List V → List V := fun vs zs => vs ++ zs
def spSpring (K : PySem.W.Frag) : Sp := fun vs H Q _ => ∃ (q s : Addr) (a b c d x z : Int), vs = [.ref q, .ref s] ∧ SqT K H q [.int a, .int b, .int c, .int d] ∧ SqT K H s [.int x, .int z] ∧ (-1000000 ≤ a ∧ a ≤ c ∧ c ≤ a + 20 ∧ c ≤ 1000000 ∧ -1000000 ≤ b ∧ b ≤ d ∧ d ≤ b + 20 ∧ d ≤ 1000000) ∧ inBx a b c d x z = true ∧ ∀ H', Ex H H' → Q .non H'
theorem h_must_spring (F : DefAt K mg "must_spring" s_must_spring [] []) (T : Txt K w mg D) (G_must_box_k : HasK P w K mg base 1 "must_box" (spMustBox K) 1 ["most"] gApp) (G_must_within : Has P w K mg base 2 "must_within" (spWithin K) []) : Has P w K mg base 3 "must_spring" (spSpring K) [] := by
  refine has_of F sc_must_spring (fun _ _ _ _ _ _ us hl => match us, hl with | [_, _], _ => rfl) ?_ ?_
  · rintro _ _ _ _ ⟨_, _, _, _, _, _, _, _, rfl, _⟩; rfl
  · rintro f cdv A outer s0 H vs Q E hr ⟨q, s, a, b, c, d, x, z, rfl, hq, hs, hb, hin, kk⟩
    refine ⟨_, pss_cons (ps_expr (pe_ck G_must_box_k (hr.mono (by decide)) (by rfl) (pa_cons (pv 0) (pa_nil)) (pk_cons (pe_gi T.MOST_POINTS (by rfl)) (pk_nil))))
      (pss_one (ps_expr (pe_c G_must_within (hr.mono (by decide)) (by rfl) (pa_cons (pv 0) (pa_cons (pe_lst (pa_cons (pv 1) (pa_nil))) (pa_nil)))))), ?_⟩
    walk_at "rd"
    refine ⟨q, a, b, c, d, .int 1024, rfl, .inr rfl, hq, by omega, .inr (by omega), ?_⟩
    walk_at "rd"
    rename_i l hl
    refine ⟨q, l, s, a, b, c, d, x, z, rfl, sq_new hl hq, upd_same, sq_new hl hs, hin, fun H1 e1 => ?_⟩
    walk_at "rd"
    exact kk _ ((Ex.nw (Ex.rfl' H) hl).tr e1)

end Kw
set_option Elab.async false
set_option linter.all false
set_option maxRecDepth 100000
set_option maxHeartbeats 2000000
namespace Kw
open PySem PySem.Spec PyProof.Rows L2
local macro_rules | `(tactic| walk_at "in") => `(tactic| repeat (first | assumption | refine in_new (by assumption) ?_ | refine in_ex (by assumption) ?_))
local macro_rules | `(tactic| walk_at "lk") => `(tactic| first | exact lk_laid _ | exact lk_code _ | exact lk_grain _ | exact lk_past _ | exact lk_future _ | exact lk_shelf _ | exact lk_last _)
local macro_rules | `(tactic| walk_at "tp") => `(tactic| repeat (first | assumption | exact tp_up | refine tp_new (by assumption) ?_ | refine tp_lst (by assumption) ?_ | refine tp_ex (by assumption) ?_ | refine tp_mv (by assumption) ?_))
local macro_rules | `(tactic| walk_at "sq") => `(tactic| repeat (first | assumption | exact sq_up | exact sl_up | exact tp_sq (by assumption) | exact Evl.sq_of (by assumption) | refine sq_new (by assumption) ?_ | refine sl_new (by assumption) ?_ | refine sq_lst (by assumption) ?_ | refine sq_ex (by assumption) ?_ | refine sl_ex (by assumption) ?_ | refine sq_mv (by assumption) ?_))
local macro_rules | `(tactic| walk_at "ex") => `(tactic| repeat (first | assumption | exact Ex.rfl' _ | refine Ex.nw ?_ (by assumption) | refine Ex.tr ?_ (by assumption)))
local macro_rules | `(tactic| walk_at "cond") => `(tactic| first | decide | exact Or.inl ⟨by omega, by omega⟩ | exact Or.inr ⟨by omega, by omega⟩ | exact ⟨by omega, by omega⟩ | omega)
local macro_rules | `(tactic| walk_at "rd1") => `(tactic| first
  | refine ⟨_, rfl, ?_⟩
  | refine ⟨_, _, rfl, rfl, ?_⟩
  | refine ⟨_, _, rfl, ?_⟩
  | refine ⟨rfl, ?_⟩
  | refine ⟨_, _, _, rfl, ?_⟩
  | (refine' ⟨_, _, _, _, rfl, rfl, ?h, ?ha, ?q⟩; (case h => walk_at "sq"); (case ha => first | assumption | rfl | exact at_c0 _ _ | exact at_c1 _ _ _ | exact at_c2 _ _ _ _ | (refine at_vals ?_; omega) | exact atI_nat (by assumption)))
  | refine ⟨_, _, _, _, rfl, ?_⟩
  | refine ⟨_, _, _, _, _, rfl, ?_⟩
  | (refine' ⟨_, _, rfl, ?h, ?ha, ?q⟩; (case h => walk_at "sq"); (case ha => first | rfl | exact Nat.le_of_ble_eq_true rfl))
  | refine Or.inr ⟨_, rfl, ?_⟩
  | (refine' ⟨_, _, rfl, Or.inr ?h, ?q⟩; (case h => walk_at "sq"))
  | (refine' ⟨_, _, rfl, Or.inl ?h, ?q⟩; (case h => walk_at "sq"))
  | refine ⟨_, _, _, _, _, rfl, .ty _, .base (.int _), kit_ty kit_ii, ?_⟩
  | refine ⟨_, _, _, _, _, rfl, .ty _, .base (.int _), kit_ty kit_ib, ?_⟩
  | refine ⟨_, _, _, _, _, rfl, .ty _, .base (.str _), kit_ty kit_ss, ?_⟩
  | refine ⟨_, _, _, _, _, rfl, .ty _, .base (.tup (by assumption)), kit_ty kit_tt, ?_⟩
  | with_reducible refine iteT ?_
  | with_reducible refine iteF ?_
  | refine ite_yes (by first | decide | omega) ?_
  | refine ite_no (by first | decide | omega) ?_
  | refine ite_no (fun z => absurd (V.str.inj z) (by assumption)) ?_
  | refine ite_no (fun z => absurd (V.int.inj z) (by omega)) ?_
  | refine ite_yes (congrArg V.int (by omega)) ?_
  | refine ite_nyes (by first | decide | omega) ?_
  | refine ite_nno (by first | decide | omega) ?_
  | (refine' And.intro (Or.inl ⟨rfl, _, ?h⟩) ?q; (case h => first | exact SqL.of (by first | assumption | exact upd_same) | walk_at "sq"))
  | (refine' And.intro ?h ?q; (case h => exact Evl.sz_of (Nat.le_of_ble_eq_true rfl)))
  | refine fun p (hp : (_ : Hp) p = none) => ?_
  | (refine' ⟨_, _, rfl, Or.inr ?h, rfl, rfl, ?q⟩; (case h => walk_at "sq"))
  | (refine' ⟨_, _, rfl, Or.inl ?h, rfl, rfl, ?q⟩; (case h => walk_at "sq"))
  | (refine' ⟨_, _, _, _, _, rfl, ?h, ?c, ?n, ?l, ?q⟩; (case h => walk_at "in"); (case c => assumption); (case n => assumption); (case l => walk_at "lk"))
  | (refine' ⟨_, _, _, rfl, ?h, ?l, ?q⟩; (case h => walk_at "in"); (case l => exact lk_none (by decide) _))
  | (refine' And.intro ?h ?q; (case h => walk_at "cond")))
local macro_rules | `(tactic| walk_at "rd") => `(tactic| repeat walk_at "rd1")
local macro_rules | `(tactic| walk_at "rs") => `(tactic| repeat' (first | walk_at "rd1" | refine ite2d (fun h => ?_) (fun h => ?_) | refine ite2n (fun h => ?_) (fun h => ?_) | refine ite2 (fun h => ?_) (fun h => ?_)))
local macro_rules | `(tactic| walk_at "pu") => `(tactic| repeat (first | assumption | refine purse_new ?_ (by assumption)))
local macro_rules | `(tactic| walk_at "mv") => `(tactic| repeat (first | assumption | exact Mv.rf _ _ | refine Mv.nw ?_ (by assumption) | refine Mv.tr ?_ (by assumption)))

variable {P : Program} {w : World} {K : PySem.W.Frag} {mg : Str → Option Value} {base : Heap} {D : Ad}
/-! ### neighbours -/
theorem past_rg {H H' : Hp} (e : Tst H H') : ∀ {us : List V} {rs : List (Int × Int)}, Paired (fun u (r : Int × Int) => ∃ p, u = V.ref p ∧ Tp H p [.int r.1, .int r.2]) us rs → Paired (fun u (r : Int × Int) => ∃ p, u = V.ref p ∧ Tp H' p [.int r.1, .int r.2]) us rs
  | _, _, .nil => .nil
  | _, _, .cons ⟨p, h1, h2⟩ t => .cons ⟨p, h1, e _ _ h2⟩ (past_rg e t)
def beside (p : Int × Int) : List (Int × Int) := [(p.1 + 1, p.2 + 0), (p.1 + 0, p.2 + 1), (p.1 + -1, p.2 + 0), (p.1 + 0, p.2 + -1)]
theorem valV_hmap (h : Int → Int → Int) : ∀ (ps : List (Int × Int)) (p : Int × Int), valV (hmap h ps) (kPt p) = if p ∈ ps then some (V.int (h p.1 p.2)) else none
  | [], p => by simp [hmap, valV_nil]
  | q :: ps, p => by
    show valV ((kPt q, V.int (h q.1 q.2)) :: hmap h ps) (kPt p) = _
    by_cases e : q = p
    · subst e
      rw [valV_pos rfl, if_pos (List.mem_cons_self ..)]
    · rw [valV_neg (fun z => e (kPt_inj z)), valV_hmap h ps p]
      by_cases m : p ∈ ps
      · rw [if_pos m, if_pos (List.mem_cons_of_mem _ m)]
      · rw [if_neg m, if_neg (fun z => (List.mem_cons.mp z).elim (fun z => e z.symm) m)]
def spNb (K : PySem.W.Frag) : Sp := fun vs H Q _ => ∃ (t s : Addr) (h : Int → Int → Int) (ps : List (Int × Int)) (x z : Int), vs = [.ref t, .ref s] ∧ H t = some (.dT (hmap h ps)) ∧ SqT K H s [.int x, .int z] ∧ ∀ (l : Addr) (H' : Hp), Ex H H' → H l = none → RgL H' l ((beside (x, z)).filter (fun p => decide (p ∈ ps))) → Q (.ref l) H'
theorem h_neighbours (F : DefAt K mg "neighbours" s_neighbours [] []) (T : Txt K w mg D) : Has P w K mg base 1 "neighbours" (spNb K) [] := by
  refine has_of F sc_neighbours (fun _ _ _ _ _ _ us hl => match us, hl with | [_, _], _ => rfl) ?_ ?_
  · rintro _ _ _ _ ⟨_, _, _, _, _, _, rfl, _⟩; rfl
  · rintro f cdv A outer s0 H vs Q E hr ⟨t, s, h, ps, x, z, rfl, ht, hs, kk⟩
    have hu := hu_of hr
    refine ⟨_, pss_cons (ps_asg (pv 1) (pg_tup rfl (pgs_cons (pg_name (i := 2) sc_neighbours.nd rfl (Or.inr rfl)) (pgs_cons (pg_name (i := 3) sc_neighbours.nd rfl (Or.inr rfl)) (pgs_nil)))))
      (pss_one (ps_ret (pe_lc (own := [("dx", 4), ("dz", 5)]) (g := (gTup K 2 (gCons (gName 4) (gCons (gName 5) (gNil))))) rfl sc_neighbours.nd (pi_tup (pe_gr T.BESIDE (by rfl))) (blkOk_by (own := [("dx", 4), ("dz", 5)]) (N := nm_neighbours) (sc := defScope s_neighbours) (by decide +kernel)) (fun _ _ _ _ _ => pg_tup rfl (pgs_cons (pg_name (i := 4) sc_neighbours.nd rfl (Or.inl rfl)) (pgs_cons (pg_name (i := 5) sc_neighbours.nd rfl (Or.inl rfl)) (pgs_nil)))) (fun _ _ _ _ _ => pts_one (pt_cmp (pc_din hu (pe_tup (pa_cons (pe_op op_add (pv 2) (pv 4)) (pa_cons (pe_op op_add (pv 3) (pv 5)) (pa_nil)))) (pv 0)) (by rfl))) (fun _ _ _ _ _ => pe_tup (pa_cons (pe_op op_add (pv 2) (pv 4)) (pa_cons (pe_op op_add (pv 3) (pv 5)) (pa_nil))))))), ?_⟩
    walk_at "rd"
    refine ⟨⟨_, T.qB _⟩, ?_⟩
    intro l hl
    refine lw_tup (K := K) (a := D.B) (xs := [.ref D.b1, .ref D.b2, .ref D.b3, .ref D.b4]) (fun i H' => Here (Ex H H' ∧ RgL H' l (((beside (x, z)).take i).filter (fun p => decide (p ∈ ps))))) (.it ⟨Ex.nw (Ex.rfl' H) hl, [], upd_same, .nil⟩) (fun i H' _ hh => T.qB _) ?_ ?_
    · intro i u H' hu' hh
      obtain ⟨he, us, hus, hp⟩ := hh.get
      obtain ⟨b, dx, dz, rfl, hb, hbe⟩ : ∃ b dx dz, u = V.ref b ∧ (∀ H, SqT K H b [.int dx, .int dz]) ∧ (beside (x, z))[i]? = some (x + dx, z + dz) := by
        match i, hu' with
        | 0, h => exact ⟨D.b1, 1, 0, (Option.some.inj h).symm, T.qb1, rfl⟩
        | 1, h => exact ⟨D.b2, 0, 1, (Option.some.inj h).symm, T.qb2, rfl⟩
        | 2, h => exact ⟨D.b3, -1, 0, (Option.some.inj h).symm, T.qb3, rfl⟩
        | 3, h => exact ⟨D.b4, 0, -1, (Option.some.inj h).symm, T.qb4, rfl⟩
      have hbH := hb H'
      walk_at "rd"
      rename_i r hr2
      have nlr : l ≠ r := ne_of_none hus hr2
      have ht2 : (upd H' r (.tup [.int (x + dx), .int (z + dz)])) t = some (.dT (hmap h ps)) := (Evl.Ex.new hr2) _ _ (he _ _ ht)
      have et : (beside (x, z)).take (i + 1) = (beside (x, z)).take i ++ [(x + dx, z + dz)] := take_snoc hbe
      have hi : i < 4 := (List.getElem?_eq_some_iff.mp hu').1
      refine ⟨t, _, rfl, .inr ⟨_, kPt (x + dx, z + dz), r, .inl ht2, rfl, upd_same, rfl⟩, ?_⟩
      rw [valV_hmap]
      have hlen := pair_len hp
      have hfl : (((beside (x, z)).take i).filter (fun p => decide (p ∈ ps))).length ≤ i := Nat.le_trans (List.length_filter_le ..) (by rw [List.length_take]; omega)
      by_cases hm : (x + dx, z + dz) ∈ ps
      · rw [if_pos hm]
        walk_at "rd"
        rename_i r2 hr3
        have nlr2 : l ≠ r2 := ne_of_none (by rw [upd_ne nlr]; exact hus) hr3
        refine ⟨us, by rw [upd_ne nlr2, upd_ne nlr]; exact hus, Evl.sz_lt (by omega), .it ⟨Ex.mu (Ex.nw (Ex.nw he hr2) hr3) hl, us ++ [.ref r2], upd_same, ?_⟩⟩
        rw [et, List.filter_append, List.filter_cons_of_pos (by simpa using hm), List.filter_nil]
        exact rgl_snoc (fun p xs h => tp_lst (by rw [upd_ne nlr2, upd_ne nlr]; exact hus) (tp_new hr3 (tp_new hr2 h))) hp (tp_lst (by rw [upd_ne nlr2, upd_ne nlr]; exact hus) tp_up)
      · rw [if_neg hm]
        walk_at "rd"
        refine .it ⟨Ex.nw he hr2, us, by rw [upd_ne nlr]; exact hus, ?_⟩
        rw [et, List.filter_append, List.filter_cons_of_neg (by simpa using hm), List.filter_nil, List.append_nil]
        clear hlen hfl
        exact past_rg (fun p xs h => tp_new hr2 h) hp
    · intro H' hh
      obtain ⟨he, hr2⟩ := hh.get
      exact kk l H' he hl hr2

end Kw
set_option Elab.async false
set_option linter.all false
set_option maxRecDepth 100000
set_option maxHeartbeats 2000000
namespace Kw
open PySem PySem.Spec PyProof.Rows L2
local macro_rules | `(tactic| walk_at "in") => `(tactic| repeat (first | assumption | refine in_new (by assumption) ?_ | refine in_ex (by assumption) ?_))
local macro_rules | `(tactic| walk_at "lk") => `(tactic| first | exact lk_laid _ | exact lk_code _ | exact lk_grain _ | exact lk_past _ | exact lk_future _ | exact lk_shelf _ | exact lk_last _)
local macro_rules | `(tactic| walk_at "tp") => `(tactic| repeat (first | assumption | exact tp_up | refine tp_new (by assumption) ?_ | refine tp_lst (by assumption) ?_ | refine tp_ex (by assumption) ?_ | refine tp_mv (by assumption) ?_))
local macro_rules | `(tactic| walk_at "sq") => `(tactic| repeat (first | assumption | exact sq_up | exact sl_up | exact tp_sq (by assumption) | exact Evl.sq_of (by assumption) | refine sq_new (by assumption) ?_ | refine sl_new (by assumption) ?_ | refine sq_lst (by assumption) ?_ | refine sq_ex (by assumption) ?_ | refine sl_ex (by assumption) ?_ | refine sq_mv (by assumption) ?_))
local macro_rules | `(tactic| walk_at "ex") => `(tactic| repeat (first | assumption | exact Ex.rfl' _ | refine Ex.nw ?_ (by assumption) | refine Ex.tr ?_ (by assumption)))
local macro_rules | `(tactic| walk_at "cond") => `(tactic| first | decide | exact Or.inl ⟨by omega, by omega⟩ | exact Or.inr ⟨by omega, by omega⟩ | exact ⟨by omega, by omega⟩ | omega)
local macro_rules | `(tactic| walk_at "rd1") => `(tactic| first
  | refine ⟨_, rfl, ?_⟩
  | refine ⟨_, _, rfl, rfl, ?_⟩
  | refine ⟨_, _, rfl, ?_⟩
  | refine ⟨rfl, ?_⟩
  | refine ⟨_, _, _, rfl, ?_⟩
  | (refine' ⟨_, _, _, _, rfl, rfl, ?h, ?ha, ?q⟩; (case h => walk_at "sq"); (case ha => first | assumption | rfl | exact at_c0 _ _ | exact at_c1 _ _ _ | exact at_c2 _ _ _ _ | (refine at_vals ?_; omega) | exact atI_nat (by assumption)))
  | refine ⟨_, _, _, _, rfl, ?_⟩
  | refine ⟨_, _, _, _, _, rfl, ?_⟩
  | (refine' ⟨_, _, rfl, ?h, ?ha, ?q⟩; (case h => walk_at "sq"); (case ha => first | rfl | exact Nat.le_of_ble_eq_true rfl))
  | refine Or.inr ⟨_, rfl, ?_⟩
  | (refine' ⟨_, _, rfl, Or.inr ?h, ?q⟩; (case h => walk_at "sq"))
  | (refine' ⟨_, _, rfl, Or.inl ?h, ?q⟩; (case h => walk_at "sq"))
  | refine ⟨_, _, _, _, _, rfl, .ty _, .base (.int _), kit_ty kit_ii, ?_⟩
  | refine ⟨_, _, _, _, _, rfl, .ty _, .base (.int _), kit_ty kit_ib, ?_⟩
  | refine ⟨_, _, _, _, _, rfl, .ty _, .base (.str _), kit_ty kit_ss, ?_⟩
  | refine ⟨_, _, _, _, _, rfl, .ty _, .base (.tup (by assumption)), kit_ty kit_tt, ?_⟩
  | with_reducible refine iteT ?_
  | with_reducible refine iteF ?_
  | refine ite_yes (by first | decide | omega) ?_
  | refine ite_no (by first | decide | omega) ?_
  | refine ite_no (fun z => absurd (V.str.inj z) (by assumption)) ?_
  | refine ite_no (fun z => absurd (V.int.inj z) (by omega)) ?_
  | refine ite_yes (congrArg V.int (by omega)) ?_
  | refine ite_nyes (by first | decide | omega) ?_
  | refine ite_nno (by first | decide | omega) ?_
  | (refine' And.intro (Or.inl ⟨rfl, _, ?h⟩) ?q; (case h => first | exact SqL.of (by first | assumption | exact upd_same) | walk_at "sq"))
  | (refine' And.intro ?h ?q; (case h => exact Evl.sz_of (Nat.le_of_ble_eq_true rfl)))
  | refine fun p (hp : (_ : Hp) p = none) => ?_
  | (refine' ⟨_, _, rfl, Or.inr ?h, rfl, rfl, ?q⟩; (case h => walk_at "sq"))
  | (refine' ⟨_, _, rfl, Or.inl ?h, rfl, rfl, ?q⟩; (case h => walk_at "sq"))
  | (refine' ⟨_, _, _, _, _, rfl, ?h, ?c, ?n, ?l, ?q⟩; (case h => walk_at "in"); (case c => assumption); (case n => assumption); (case l => walk_at "lk"))
  | (refine' ⟨_, _, _, rfl, ?h, ?l, ?q⟩; (case h => walk_at "in"); (case l => exact lk_none (by decide) _))
  | (refine' And.intro ?h ?q; (case h => walk_at "cond")))
local macro_rules | `(tactic| walk_at "rd") => `(tactic| repeat walk_at "rd1")
local macro_rules | `(tactic| walk_at "rs") => `(tactic| repeat' (first | walk_at "rd1" | refine ite2d (fun h => ?_) (fun h => ?_) | refine ite2n (fun h => ?_) (fun h => ?_) | refine ite2 (fun h => ?_) (fun h => ?_)))
local macro_rules | `(tactic| walk_at "pu") => `(tactic| repeat (first | assumption | refine purse_new ?_ (by assumption)))
local macro_rules | `(tactic| walk_at "mv") => `(tactic| repeat (first | assumption | exact Mv.rf _ _ | refine Mv.nw ?_ (by assumption) | refine Mv.tr ?_ (by assumption)))

variable {P : Program} {w : World} {K : PySem.W.Frag} {mg : Str → Option Value} {base : Heap} {D : Ad}
/-! ### the ways back -/
/-- a dict of ways back: its keys ks in their order; the first's value is None, each other's the point of an earlier one -/
def BackAt (H : Hp) (t : Addr) (ks : List (Int × Int)) : Prop := ∃ kvs, H t = some (.dT kvs) ∧ kvs.map (·.1) = ks.map kPt ∧ ks.Nodup ∧
  ∀ (j : Nat) (p : Int × Int), ks[j]? = some p → (j = 0 ∧ valV kvs (kPt p) = some .non) ∨ ∃ i q r, i < j ∧ ks[i]? = some q ∧ valV kvs (kPt p) = some (.ref r) ∧ Tp H r [.int q.1, .int q.2]
def spLed : Sp := fun vs H Q _ => ∃ (t g : Addr) (ks : List (Int × Int)) (j : Nat) (p : Int × Int), vs = [.ref t, .ref g] ∧ BackAt H t ks ∧ ks.length ≤ 1000 ∧ ks[j]? = some p ∧ Tp H g [.int p.1, .int p.2] ∧ ∀ (l : Addr) (us : List V) (H' : Hp), Ex H H' → H' l = some (.lst us) → Q (.ref l) H'
theorem h_led (F : DefAt K mg "led" s_led [] []) (T : Txt K w mg D) : Has P w K mg base 1 "led" spLed [] := by
  refine has_of F sc_led (fun _ _ _ _ _ _ us hl => match us, hl with | [_, _], _ => rfl) ?_ ?_
  · rintro _ _ _ _ ⟨_, _, _, _, _, rfl, _⟩; rfl
  · rintro f cdv A outer s0 H vs Q E hr ⟨t, g, ks, j0, p0, rfl, ⟨kvs, ht, hk, hnd, hval⟩, hlen, hj0, hg, kk⟩
    have hu := hu_of hr
    refine ⟨_, pss_cons (ps_set (i := 2) sc_led.nd rfl (Or.inl rfl) (pe_lst (pa_nil)))
      (pss_cons (ps_set (i := 3) sc_led.nd rfl (Or.inl rfl) (pv 1))
      (pss_cons (ps_while PassesOwn.never (pt_cmpR op_notN (pv 3) (pe_non) (nomark _)) (pss_cons (ps_expr (pe_bm PySem.F.plainAttrs_list PySem.F.slot_list_append PySem.F.type_list_append mt_append (pv 2) (pa_cons (pv 3) (pa_nil))))
      (pss_one (ps_set (i := 3) sc_led.nd rfl (Or.inl rfl) (pe_dget hu (pv 0) (pv 3) (fun _ _ => rfl))))))
      (pss_one (ps_ret (pe_revL (pv 2)))))), ?_⟩
    walk_at "rd"
    rename_i d hd
    refine while_x (fun σ H' => Here (∃ us, Ex H H' ∧ H' d = some (.lst us) ∧ σ = [some (.ref t), some (.ref g), some (.ref d), some .non])) (fun m σ H' => Here (∃ us, Ex H H' ∧ H' d = some (.lst us) ∧ us.length + m ≤ 1001 ∧ ((m = 0 ∧ σ = [some (.ref t), some (.ref g), some (.ref d), some .non]) ∨ ∃ j p r, m = j + 1 ∧ ks[j]? = some p ∧ Tp H r [.int p.1, .int p.2] ∧ σ = [some (.ref t), some (.ref g), some (.ref d), some (.ref r)]))) ⟨j0 + 1, .it ⟨[], Ex.nw (Ex.rfl' H) hd, upd_same, by have := (List.getElem?_eq_some_iff.mp hj0).1; simp; omega, .inr ⟨j0, p0, g, rfl, hj0, hg, rfl⟩⟩⟩ ?_ ?_
    · intro σ H' hh
      obtain ⟨us, he, hd2, rfl⟩ := hh.get
      walk_at "rd"
      refine ⟨d, us, rfl, Evl.sq_of hd2, fun q hq => ?_⟩
      exact kk q us.reverse _ (Ex.nw he hq) upd_same
    · intro nx hnx m σ H' hh
      obtain ⟨us, he, hd2, hul, hc⟩ := hh.get
      rcases hc with ⟨rfl, rfl⟩ | ⟨j, p, r, rfl, hj, hr1, rfl⟩
      · walk_at "rd"
        exact hnx _ _ (.it ⟨us, he, hd2, rfl⟩)
      · walk_at "rd"
        have hjl := (List.getElem?_eq_some_iff.mp hj).1
        have ht1 : (upd H' d (.lst (us ++ [.ref r]))) t = some (.dT kvs) := by rw [upd_ne (ne_of_none ht hd)]; exact he _ _ ht
        have hr2 : (upd H' d (.lst (us ++ [.ref r]))) r = some (.tup ((kPt p).map kV)) := tp_lst hd2 (tp_ex he hr1)
        refine ⟨fun σ' H'' => H'' = upd H' d (.lst (us ++ [.ref r])) ∧ ∃ v, valV kvs (kPt p) = some v ∧ σ' = [some (.ref t), some (.ref g), some (.ref d), some v], ?_, ?_⟩
        · rintro σ' H'' ⟨rfl, v, hv, rfl⟩
          rcases hval j p hj with ⟨_, h0⟩ | ⟨i, q, r', hij, hi, h0, h1⟩
          · rw [hv] at h0; cases h0
            exact ⟨0, by omega, .it ⟨_, Ex.mu he hd, upd_same, by simp; omega, .inl ⟨rfl, rfl⟩⟩⟩
          · rw [hv] at h0; cases h0
            exact ⟨i + 1, by omega, .it ⟨_, Ex.mu he hd, upd_same, by simp; omega, .inr ⟨i, q, r', rfl, hi, h1, rfl⟩⟩⟩
        · walk_at "rd"
          refine ⟨d, us, _, rfl, rfl, hd2, Evl.sz_lt (by omega), ?_⟩
          walk_at "rd"
          obtain ⟨v, hv⟩ : ∃ v, valV kvs (kPt p) = some v := by
            rcases hval j p hj with ⟨_, h0⟩ | ⟨i, q, r', hij, hi, h0, h1⟩
            · exact ⟨_, h0⟩
            · exact ⟨_, h0⟩
          refine ⟨t, v, rfl, .inr ⟨kvs, kPt p, r, .inl ht1, rfl, hr2, hv.symm⟩, ?_⟩
          exact ⟨rfl, v, hv, rfl⟩

end Kw
set_option Elab.async false
set_option linter.all false
set_option maxRecDepth 100000
set_option maxHeartbeats 2000000
namespace Kw
open PySem PySem.Spec PyProof.Rows L2
local macro_rules | `(tactic| walk_at "in") => `(tactic| repeat (first | assumption | refine in_new (by assumption) ?_ | refine in_ex (by assumption) ?_))
local macro_rules | `(tactic| walk_at "lk") => `(tactic| first | exact lk_laid _ | exact lk_code _ | exact lk_grain _ | exact lk_past _ | exact lk_future _ | exact lk_shelf _ | exact lk_last _)
local macro_rules | `(tactic| walk_at "tp") => `(tactic| repeat (first | assumption | exact tp_up | refine tp_new (by assumption) ?_ | refine tp_lst (by assumption) ?_ | refine tp_ex (by assumption) ?_ | refine tp_mv (by assumption) ?_))
local macro_rules | `(tactic| walk_at "sq") => `(tactic| repeat (first | assumption | exact sq_up | exact sl_up | exact tp_sq (by assumption) | exact Evl.sq_of (by assumption) | refine sq_new (by assumption) ?_ | refine sl_new (by assumption) ?_ | refine sq_lst (by assumption) ?_ | refine sq_ex (by assumption) ?_ | refine sl_ex (by assumption) ?_ | refine sq_mv (by assumption) ?_))
local macro_rules | `(tactic| walk_at "ex") => `(tactic| repeat (first | assumption | exact Ex.rfl' _ | refine Ex.nw ?_ (by assumption) | refine Ex.tr ?_ (by assumption)))
local macro_rules | `(tactic| walk_at "cond") => `(tactic| first | decide | exact Or.inl ⟨by omega, by omega⟩ | exact Or.inr ⟨by omega, by omega⟩ | exact ⟨by omega, by omega⟩ | omega)
local macro_rules | `(tactic| walk_at "rd1") => `(tactic| first
  | refine ⟨_, rfl, ?_⟩
  | refine ⟨_, _, rfl, rfl, ?_⟩
  | refine ⟨_, _, rfl, ?_⟩
  | refine ⟨rfl, ?_⟩
  | refine ⟨_, _, _, rfl, ?_⟩
  | (refine' ⟨_, _, _, _, rfl, rfl, ?h, ?ha, ?q⟩; (case h => walk_at "sq"); (case ha => first | assumption | rfl | exact at_c0 _ _ | exact at_c1 _ _ _ | exact at_c2 _ _ _ _ | (refine at_vals ?_; omega) | exact atI_nat (by assumption)))
  | refine ⟨_, _, _, _, rfl, ?_⟩
  | refine ⟨_, _, _, _, _, rfl, ?_⟩
  | (refine' ⟨_, _, rfl, ?h, ?ha, ?q⟩; (case h => walk_at "sq"); (case ha => first | rfl | exact Nat.le_of_ble_eq_true rfl))
  | refine Or.inr ⟨_, rfl, ?_⟩
  | (refine' ⟨_, _, rfl, Or.inr ?h, ?q⟩; (case h => walk_at "sq"))
  | (refine' ⟨_, _, rfl, Or.inl ?h, ?q⟩; (case h => walk_at "sq"))
  | refine ⟨_, _, _, _, _, rfl, .ty _, .base (.int _), kit_ty kit_ii, ?_⟩
  | refine ⟨_, _, _, _, _, rfl, .ty _, .base (.int _), kit_ty kit_ib, ?_⟩
  | refine ⟨_, _, _, _, _, rfl, .ty _, .base (.str _), kit_ty kit_ss, ?_⟩
  | refine ⟨_, _, _, _, _, rfl, .ty _, .base (.tup (by assumption)), kit_ty kit_tt, ?_⟩
  | with_reducible refine iteT ?_
  | with_reducible refine iteF ?_
  | refine ite_yes (by first | decide | omega) ?_
  | refine ite_no (by first | decide | omega) ?_
  | refine ite_no (fun z => absurd (V.str.inj z) (by assumption)) ?_
  | refine ite_no (fun z => absurd (V.int.inj z) (by omega)) ?_
  | refine ite_yes (congrArg V.int (by omega)) ?_
  | refine ite_nyes (by first | decide | omega) ?_
  | refine ite_nno (by first | decide | omega) ?_
  | (refine' And.intro (Or.inl ⟨rfl, _, ?h⟩) ?q; (case h => first | exact SqL.of (by first | assumption | exact upd_same) | walk_at "sq"))
  | (refine' And.intro ?h ?q; (case h => exact Evl.sz_of (Nat.le_of_ble_eq_true rfl)))
  | refine fun p (hp : (_ : Hp) p = none) => ?_
  | (refine' ⟨_, _, rfl, Or.inr ?h, rfl, rfl, ?q⟩; (case h => walk_at "sq"))
  | (refine' ⟨_, _, rfl, Or.inl ?h, rfl, rfl, ?q⟩; (case h => walk_at "sq"))
  | (refine' ⟨_, _, _, _, _, rfl, ?h, ?c, ?n, ?l, ?q⟩; (case h => walk_at "in"); (case c => assumption); (case n => assumption); (case l => walk_at "lk"))
  | (refine' ⟨_, _, _, rfl, ?h, ?l, ?q⟩; (case h => walk_at "in"); (case l => exact lk_none (by decide) _))
  | (refine' And.intro ?h ?q; (case h => walk_at "cond")))
local macro_rules | `(tactic| walk_at "rd") => `(tactic| repeat walk_at "rd1")
local macro_rules | `(tactic| walk_at "rs") => `(tactic| repeat' (first | walk_at "rd1" | refine ite2d (fun h => ?_) (fun h => ?_) | refine ite2n (fun h => ?_) (fun h => ?_) | refine ite2 (fun h => ?_) (fun h => ?_)))
local macro_rules | `(tactic| walk_at "pu") => `(tactic| repeat (first | assumption | refine purse_new ?_ (by assumption)))
local macro_rules | `(tactic| walk_at "mv") => `(tactic| repeat (first | assumption | exact Mv.rf _ _ | refine Mv.nw ?_ (by assumption) | refine Mv.tr ?_ (by assumption)))

variable {P : Program} {w : World} {K : PySem.W.Frag} {mg : Str → Option Value} {base : Heap} {D : Ad}
/-! ### wet_from -/
/-- the wet points: from the spring by neighbours in the box, all below the level -/
inductive Wet (h : Int → Int → Int) (ps : List (Int × Int)) (lv : Int) (s : Int × Int) : Int × Int → Prop
  | here : Wet h ps lv s s
  | step {p q : Int × Int} (hp : Wet h ps lv s p) (hq : q ∈ beside p) (hm : q ∈ ps) (hl : h q.1 q.2 < lv) : Wet h ps lv s q
/-- while the points are sought -/
structure WI (H0 : Hp) (h : Int → Int → Int) (ps : List (Int × Int)) (lv : Int) (s : Int × Int) (d f : Addr) (H' : Hp) (ks : List (Int × Int)) : Prop where
  ex : Ex H0 H'
  bk : BackAt H' d ks
  fl : RgL H' f ks
  wet : ∀ p ∈ ks, Wet h ps lv s p
  inp : ∀ p ∈ ks, p ∈ ps
  first : ks[0]? = some s
theorem BackAt.ex {H H' : Hp} {t : Addr} {ks : List (Int × Int)} (b : BackAt H t ks) (e : Ex H H') : BackAt H' t ks := by
  obtain ⟨kvs, h1, h2, h3, h4⟩ := b
  refine ⟨kvs, e _ _ h1, h2, h3, fun j p hj => ?_⟩
  rcases h4 j p hj with h | ⟨i, q, r, a, b, c, d⟩
  · exact .inl h
  · exact .inr ⟨i, q, r, a, b, c, tp_ex e d⟩
theorem RgL.ex {H H' : Hp} {l : Addr} {rs : List (Int × Int)} (g : RgL H l rs) (e : Ex H H') : RgL H' l rs := by
  obtain ⟨us, h1, h2⟩ := g
  exact ⟨us, e _ _ h1, past_rg (.ex e) h2⟩
theorem WI.mono {H0 : Hp} {h : Int → Int → Int} {ps : List (Int × Int)} {lv : Int} {s : Int × Int} {d f : Addr} {H1 H2 : Hp} {ks : List (Int × Int)} (w : WI H0 h ps lv s d f H1 ks) (e : Ex H1 H2) : WI H0 h ps lv s d f H2 ks :=
  ⟨w.ex.tr e, w.bk.ex e, w.fl.ex e, w.wet, w.inp, w.first⟩
theorem nd_len : ∀ {ks ps : List (Int × Int)}, ks.Nodup → (∀ p ∈ ks, p ∈ ps) → ks.length ≤ ps.length := by
  intro ks ps hn hs
  exact (List.Nodup.length_le_of_subset hn hs)
theorem valV_mem {κ : Type} [DecidableEq κ] : ∀ {kvs : List (κ × V)} {k : κ}, k ∈ kvs.map (·.1) → ∃ v, valV kvs k = some v
  | a :: l, k, h => by
    by_cases e : a.1 = k
    · exact ⟨_, valV_pos e⟩
    · rw [valV_neg e]
      refine valV_mem ?_
      rcases List.mem_cons.mp h with h | h
      · exact absurd h.symm e
      · exact h
/-- is a point among the keys -/
theorem back_get {H : Hp} {d : Addr} {ks : List (Int × Int)} {kvs : List (List Key × V)} (hk : kvs.map (·.1) = ks.map kPt) (q : Int × Int) : (q ∈ ks ∧ ∃ v, valV kvs (kPt q) = some v) ∨ (q ∉ ks ∧ valV kvs (kPt q) = none) := by
  by_cases m : q ∈ ks
  · exact .inl ⟨m, valV_mem (by rw [hk]; exact List.mem_map.mpr ⟨q, m, rfl⟩)⟩
  · refine .inr ⟨m, valV_notin fun z => ?_⟩
    rw [hk] at z
    obtain ⟨p, hp, e⟩ := List.mem_map.mp z
    exact m (kPt_inj e ▸ hp)
theorem WI.add {H0 : Hp} {h : Int → Int → Int} {ps : List (Int × Int)} {lv : Int} {s : Int × Int} {d f : Addr} {H1 : Hp} {ks : List (Int × Int)} (w : WI H0 h ps lv s d f H1 ks) (hd : H0 d = none) (hf : H0 f = none) {kvs : List (List Key × V)} {us : List V} (ed : H1 d = some (.dT kvs)) (ef : H1 f = some (.lst us))
    {i : Nat} {c q : Int × Int} {rc rq : Addr} (hi : ks[i]? = some c) (hrc : Tp H1 rc [.int c.1, .int c.2]) (hrq : Tp H1 rq [.int q.1, .int q.2]) (hq : q ∉ ks) (hb : q ∈ beside c) (hm : q ∈ ps) (hl : h q.1 q.2 < lv) :
    WI H0 h ps lv s d f (upd (upd H1 d (.dT (kvs ++ [(kPt q, .ref rc)]))) f (.lst (us ++ [.ref rq]))) (ks ++ [q]) := by
  obtain ⟨kvs', b1, b2, b3, b4⟩ := w.bk
  obtain ⟨us', l1, l2⟩ := w.fl
  obtain rfl : kvs = kvs' := by rw [ed] at b1; cases b1; rfl
  obtain rfl : us = us' := by rw [ef] at l1; cases l1; rfl
  have ndf : d ≠ f := fun z => by rw [z] at ed; cases ed.symm.trans ef
  have tst : Tst H1 (upd (upd H1 d (.dT (kvs ++ [(kPt q, .ref rc)]))) f (.lst (us ++ [.ref rq]))) := fun p xs hp => by
    have n1 : p ≠ d := fun z => by subst z; cases ed.symm.trans hp
    have n2 : p ≠ f := fun z => by subst z; cases ef.symm.trans hp
    show (upd (upd H1 d _) f _) p = _
    rw [upd_ne n2, upd_ne n1]; exact hp
  have hil := (List.getElem?_eq_some_iff.mp hi).1
  have hvn : valV kvs (kPt q) = none := (back_get (H := H1) (d := d) b2 q).elim (fun z => absurd z.1 hq) (·.2)
  refine ⟨(w.ex.mu hd).mu hf, ⟨kvs ++ [(kPt q, .ref rc)], by rw [upd_ne ndf, upd_same], by rw [List.map_append, List.map_append, b2]; rfl, ?_, ?_⟩, ⟨us ++ [.ref rq], upd_same, ?_⟩, ?_, ?_, ?_⟩
  · rw [List.nodup_append]
    exact ⟨b3, by simp, fun a ha b hb e => hq (by rw [List.mem_singleton.mp hb] at e; exact e ▸ ha)⟩
  · intro j p hj
    have hv2 := valV_snoc (kPt q) (kPt p) (.ref rc) kvs hvn
    by_cases c1 : j < ks.length
    · rw [List.getElem?_append_left c1] at hj
      have hne : ¬ kPt p = kPt q := fun z => hq (kPt_inj z ▸ List.mem_of_getElem? hj)
      rw [if_neg hne] at hv2
      rcases b4 j p hj with ⟨z, e⟩ | ⟨i', q', r', a1, a2, a3, a4⟩
      · exact .inl ⟨z, by rw [hv2]; exact e⟩
      · exact .inr ⟨i', q', r', a1, get_app a2, by rw [hv2]; exact a3, tst _ _ a4⟩
    · have hjl := (List.getElem?_eq_some_iff.mp hj).1
      have ej : j = ks.length := by simp at hjl; omega
      subst ej
      have ep : q = p := by simpa using hj
      subst ep
      rw [if_pos rfl] at hv2
      exact .inr ⟨i, c, rc, hil, get_app hi, hv2, tst _ _ hrc⟩
  · exact pair_snoc (past_rg tst l2) ⟨rq, rfl, tst _ _ hrq⟩
  · intro p hp
    rcases List.mem_append.mp hp with z | z
    · exact w.wet p z
    · rw [List.mem_singleton.mp z]; exact .step (w.wet c (List.mem_of_getElem? hi)) hb hm hl
  · intro p hp
    rcases List.mem_append.mp hp with z | z
    · exact w.inp p z
    · rw [List.mem_singleton.mp z]; exact hm
  · exact get_app w.first

end Kw
set_option linter.all false
/-! Water: reachability below a level, the least level at which it runs out. Plain Lean. -/
namespace KwM
abbrev Pt := Int × Int
structure Bx where
  x0 : Int
  z0 : Int
  x1 : Int
  z1 : Int
def inB (b : Bx) (p : Pt) : Prop := b.x0 ≤ p.1 ∧ p.1 ≤ b.x1 ∧ b.z0 ≤ p.2 ∧ p.2 ≤ b.z1
def edge (b : Bx) (p : Pt) : Prop := p.1 = b.x0 ∨ p.1 = b.x1 ∨ p.2 = b.z0 ∨ p.2 = b.z1
def beside (p q : Pt) : Prop := (q.1 = p.1 + 1 ∧ q.2 = p.2) ∨ (q.1 = p.1 ∧ q.2 = p.2 + 1) ∨ (q.1 = p.1 + -1 ∧ q.2 = p.2) ∨ (q.1 = p.1 ∧ q.2 = p.2 + -1)
theorem beside.symm {p q : Pt} (h : beside p q) : beside q p := by unfold beside at *; omega
inductive Rch (h : Pt → Int) (b : Bx) (lv : Int) (s : Pt) : Pt → Prop
  | base : Rch h b lv s s
  | step {p q : Pt} : Rch h b lv s p → beside p q → inB b q → h q < lv → Rch h b lv s q
def Out (h : Pt → Int) (b : Bx) (lv : Int) (s : Pt) : Prop := ∃ p, Rch h b lv s p ∧ edge b p
def IsLeast (h : Pt → Int) (b : Bx) (s : Pt) (L : Int) : Prop := h s ≤ L ∧ Out h b (L + 1) s ∧ ∀ lv, h s < lv → lv ≤ L → ¬ Out h b lv s
section
variable {h h' : Pt → Int} {b b' : Bx} {lv lv' L L' : Int} {s p q : Pt}
theorem Rch.mono (r : Rch h b lv s p) (e : lv ≤ lv') : Rch h b lv' s p := by
  induction r with
  | base => exact .base
  | step _ a i l ih => exact .step ih a i (by omega)
theorem Rch.trans (r : Rch h b lv s p) (t : Rch h b lv p q) : Rch h b lv s q := by
  induction t with
  | base => exact r
  | step _ a i l ih => exact .step ih a i l
theorem Rch.inb (r : Rch h b lv s p) (hs : inB b s) : inB b p := by
  cases r with
  | base => exact hs
  | step _ _ i _ => exact i
theorem Rch.low (r : Rch h b lv s p) (hs : h s < lv) : h p < lv := by
  cases r with
  | base => exact hs
  | step _ _ _ l => exact l
theorem Rch.symm (r : Rch h b lv s p) (hs : inB b s) (hl : h s < lv) : Rch h b lv p s := by
  induction r with
  | base => exact .base
  | step r a i l ih => exact Rch.trans (.step .base a.symm (r.inb hs) (r.low hl)) ih
theorem Out.mono (o : Out h b lv s) (e : lv ≤ lv') : Out h b lv' s := let ⟨p, r, e'⟩ := o; ⟨p, r.mono e, e'⟩
theorem IsLeast.uniq (a : IsLeast h b s L) (c : IsLeast h b s L') : L = L' := by
  obtain ⟨a1, a2, a3⟩ := a
  obtain ⟨c1, c2, c3⟩ := c
  rcases Int.lt_trichotomy L L' with e | e | e
  · exact absurd a2 (c3 (L + 1) (by omega) (by omega))
  · exact e
  · exact absurd c2 (a3 (L' + 1) (by omega) (by omega))
/-- the same heights in the box -/
theorem Rch.congr (hh : ∀ p, inB b p → h' p = h p) (r : Rch h b lv s p) : Rch h' b lv s p := by
  induction r with
  | base => exact .base
  | step _ a i l ih => exact .step ih a i (by rw [hh _ i]; exact l)
theorem IsLeast.congr (hh : ∀ p, inB b p → h' p = h p) (hs : inB b s) (a : IsLeast h b s L) : IsLeast h' b s L := by
  obtain ⟨a1, ⟨p, r, e⟩, a3⟩ := a
  refine ⟨by rw [hh s hs]; exact a1, ⟨p, r.congr hh, e⟩, fun lv l1 l2 ⟨p, r, e⟩ => a3 lv (by rw [← hh s hs]; exact l1) l2 ⟨p, r.congr fun p i => (hh p i).symm, e⟩⟩
/-- a raise over the box -/
theorem Rch.raise {c : Int} (hh : ∀ p, inB b p → h' p = h p + c) (r : Rch h b lv s p) : Rch h' b (lv + c) s p := by
  induction r with
  | base => exact .base
  | step _ a i l ih => exact .step ih a i (by rw [hh _ i]; omega)
theorem IsLeast.raise {c : Int} (hh : ∀ p, inB b p → h' p = h p + c) (hs : inB b s) (a : IsLeast h b s L) : IsLeast h' b s (L + c) := by
  obtain ⟨a1, ⟨p, r, e⟩, a3⟩ := a
  have es := hh s hs
  refine ⟨by omega, ⟨p, ?_, e⟩, fun lv l1 l2 ⟨p, r, e⟩ => a3 (lv - c) (by omega) (by omega) ⟨p, ?_, e⟩⟩
  · have := r.raise hh
    rw [show L + c + 1 = L + 1 + c by omega]
    exact this
  · have hh' : ∀ p, inB b p → h p = h' p + (-c) := fun p i => by rw [hh p i]; omega
    exact r.raise hh'
/-- a wall about the box -/
theorem IsLeast.wall {c : Int} (hc : 0 ≤ c) (he : ∀ p, inB b p → edge b p → h' p = max (h p) (L + c)) (hi : ∀ p, inB b p → ¬ edge b p → h' p = h p) (hs : inB b s) (a : IsLeast h b s L) : IsLeast h' b s (L + c) := by
  obtain ⟨a1, ⟨p, r, e⟩, a3⟩ := a
  have key : ∀ p, inB b p → h p ≤ L → h' p ≤ L + c := fun p i l => by
    by_cases e : edge b p
    · rw [he p i e]; omega
    · rw [hi p i e]; omega
  have go : ∀ p, Rch h b (L + 1) s p → Rch h' b (L + c + 1) s p := fun p r => by
    induction r with
    | base => exact .base
    | step _ a i l ih => exact .step ih a i (by have := key _ i (by omega); omega)
  refine ⟨key s hs a1, ⟨p, go p r, e⟩, fun lv l1 l2 ⟨p, r, e⟩ => ?_⟩
  cases r with
  | base => have := he _ hs e; omega
  | step _ _ i l => have := he _ i e; omega
/-- a ditch from the spring to the low edge -/
theorem IsLeast.ditch (hd : ∀ p, inB b p → p.2 = s.2 → p.1 ≤ s.1 → h' p = min (h p) (h s)) (hs : inB b s) : IsLeast h' b s (h s) := by
  have es : h' s = h s := by rw [hd s hs rfl (Int.le_refl _)]; omega
  refine ⟨by omega, ⟨(b.x0, s.2), ?_, .inl rfl⟩, fun lv l1 l2 => by omega⟩
  have go : ∀ n : Nat, b.x0 ≤ s.1 - n → Rch h' b (h s + 1) s (s.1 - n, s.2) := by
    intro n
    induction n with
    | zero => intro _; rw [show s.1 - ((0 : Nat) : Int) = s.1 by omega]; exact .base
    | succ n ih =>
      intro l
      have i : inB b (s.1 - ((n + 1 : Nat) : Int), s.2) := ⟨l, (by show s.1 - _ ≤ _; have := hs.2.1; omega), hs.2.2.1, hs.2.2.2⟩
      refine .step (ih (by omega)) ?_ i ?_
      · right; right; left; exact ⟨by show s.1 - ((n + 1 : Nat) : Int) = s.1 - (n : Int) + -1; omega, rfl⟩
      · rw [hd _ i rfl (by show s.1 - _ ≤ s.1; omega)]; omega
  have := go (s.1 - b.x0).toNat (by have := hs.1; omega)
  have e : s.1 - ((s.1 - b.x0).toNat : Int) = b.x0 := by have := hs.1; omega
  rw [e] at this
  exact this
/-- all points below the level: it runs out -/
theorem out_all (ha : ∀ p, inB b p → h p < lv) (hs : inB b s) : Out h b lv s := by
  refine ⟨(b.x0, s.2), ?_, .inl rfl⟩
  have go : ∀ n : Nat, b.x0 ≤ s.1 - n → Rch h b lv s (s.1 - n, s.2) := by
    intro n
    induction n with
    | zero => intro _; rw [show s.1 - ((0 : Nat) : Int) = s.1 by omega]; exact .base
    | succ n ih =>
      intro l
      have i : inB b (s.1 - ((n + 1 : Nat) : Int), s.2) := ⟨l, (by show s.1 - _ ≤ _; have := hs.2.1; omega), hs.2.2.1, hs.2.2.2⟩
      refine .step (ih (by omega)) ?_ i (ha _ i)
      right; right; left; exact ⟨by show s.1 - ((n + 1 : Nat) : Int) = s.1 - (n : Int) + -1; omega, rfl⟩
  have := go (s.1 - b.x0).toNat (by have := hs.1; omega)
  have e : s.1 - ((s.1 - b.x0).toNat : Int) = b.x0 := by have := hs.1; omega
  rw [e] at this
  exact this
/-- within a lesser box it runs out no later -/
def inner (b : Bx) : Bx := ⟨b.x0, b.z0, max b.x0 (b.x1 - 1), max b.z0 (b.z1 - 1)⟩
theorem Rch.inner_or (hs : inB (inner b) s) (r : Rch h b lv s p) : Rch h (inner b) lv s p ∨ Out h (inner b) lv s := by
  induction r with
  | base => exact .inl .base
  | @step p q r a i l ih =>
    rcases ih with ih | o
    · by_cases iq : inB (inner b) q
      · exact .inl (.step ih a iq l)
      · refine .inr ⟨p, ih, ?_⟩
        have ip := ih.inb hs
        unfold inner inB at ip iq hs
        unfold inB at i
        unfold beside at a
        unfold edge inner
        simp only at *
        omega
    · exact .inr o
theorem inner_in (i : inB (inner b) p) (hx : b.x0 ≤ b.x1) (hz : b.z0 ≤ b.z1) : inB b p := by
  unfold inner inB at *
  simp only at *
  omega
theorem IsLeast.inner_le (hs : inB (inner b) s) (a : IsLeast h b s L) (c : IsLeast h (inner b) s L') : L' ≤ L := by
  obtain ⟨a1, ⟨p, r, e⟩, a3⟩ := a
  obtain ⟨c1, c2, c3⟩ := c
  refine Int.not_lt.mp fun l => c3 (L + 1) (by omega) (by omega) ?_
  rcases r.inner_or hs with r | o
  · refine ⟨p, r, ?_⟩
    have ip := r.inb hs
    unfold inner inB at ip
    unfold edge at e
    unfold edge inner
    simp only at *
    omega
  · exact o
/-- springs that hold together -/
theorem IsLeast.together (hs : inB b s) (a : IsLeast h b s L) (hl : h s < L) (r : Rch h b L s p) : IsLeast h b p L ∧ ∀ q, Rch h b L p q ↔ Rch h b L s q := by
  have hp := r.low hl
  have sy := r.symm hs hl
  obtain ⟨a1, ⟨q, rq, e⟩, a3⟩ := a
  refine ⟨⟨by omega, ⟨q, (sy.mono (by omega)).trans rq, e⟩, fun lv l1 l2 ⟨q, rq, e⟩ => a3 L hl (Int.le_refl _) ⟨q, r.trans (rq.mono l2), e⟩⟩, fun q => ⟨fun t => r.trans t, fun t => sy.trans t⟩⟩
theorem IsLeast.dry_not (a : IsLeast h b s L) (l1 : h s < lv) (l2 : lv ≤ L) : ¬ Out h b lv s := a.2.2 lv l1 l2
theorem IsLeast.runs (a : IsLeast h b s L) (l : L < lv) : Out h b lv s := a.2.1.mono (by omega)
/-- the search's end: v the levels, rising, all the heights from the spring's on; the first place at which it runs out -/
theorem IsLeast.of_search {v : List Int} {k : Nat} (hs : inB b s) (hv : ∀ y, y ∈ v ↔ h s ≤ y ∧ ∃ p, inB b p ∧ h p = y) (hr : ∀ i j (hi : i < v.length) (hj : j < v.length), i < j → v[i] < v[j])
    (hk : k < v.length) (ho : Out h b (v[k] + 1) s) (hn : ∀ j (hj : j < k), ¬ Out h b (v[j]'(by omega) + 1) s) : IsLeast h b s v[k] := by
  have hm : v[k] ∈ v := List.getElem_mem hk
  refine ⟨((hv _).mp hm).1, ho, fun lv l1 l2 ⟨p, r, e⟩ => ?_⟩
  cases k with
  | zero =>
    have hsm : h s ∈ v := (hv _).mpr ⟨Int.le_refl _, s, hs, rfl⟩
    obtain ⟨i, hi, ei⟩ := List.mem_iff_getElem.mp hsm
    have : v[0] ≤ h s := by
      cases i with
      | zero => rw [ei]; exact Int.le_refl _
      | succ i => have := hr 0 (i + 1) (by omega) hi (by omega); omega
    omega
  | succ k =>
    refine hn k (by omega) ⟨p, ?_, e⟩
    have low : ∀ q, inB b q → h q < lv → h q < v[k] + 1 := fun q i l => by
      by_cases c : h s ≤ h q
      · have hq : h q ∈ v := (hv _).mpr ⟨c, q, i, rfl⟩
        obtain ⟨i, hi, ei⟩ := List.mem_iff_getElem.mp hq
        by_cases c1 : i < k
        · have := hr i k hi (by omega) c1; omega
        · by_cases c2 : i = k
          · subst c2; omega
          · by_cases c3 : i = k + 1
            · subst c3; omega
            · have := hr (k + 1) i hk hi (by omega); omega
      · have hsm : h s ∈ v := (hv _).mpr ⟨Int.le_refl _, s, hs, rfl⟩
        have hkm := ((hv _).mp (List.getElem_mem (show k < v.length by omega))).1
        omega
    clear e
    induction r with
    | base => exact .base
    | step _ a i l ih => exact .step ih a i (low _ i l)
end
end KwM
set_option Elab.async false
set_option linter.all false
set_option maxRecDepth 100000
set_option maxHeartbeats 2000000
namespace Kw
open PySem PySem.Spec PyProof.Rows L2
local macro_rules | `(tactic| walk_at "in") => `(tactic| repeat (first | assumption | refine in_new (by assumption) ?_ | refine in_ex (by assumption) ?_))
local macro_rules | `(tactic| walk_at "lk") => `(tactic| first | exact lk_laid _ | exact lk_code _ | exact lk_grain _ | exact lk_past _ | exact lk_future _ | exact lk_shelf _ | exact lk_last _)
local macro_rules | `(tactic| walk_at "tp") => `(tactic| repeat (first | assumption | exact tp_up | refine tp_new (by assumption) ?_ | refine tp_lst (by assumption) ?_ | refine tp_ex (by assumption) ?_ | refine tp_mv (by assumption) ?_))
local macro_rules | `(tactic| walk_at "sq") => `(tactic| repeat (first | assumption | exact sq_up | exact sl_up | exact tp_sq (by assumption) | exact Evl.sq_of (by assumption) | refine sq_new (by assumption) ?_ | refine sl_new (by assumption) ?_ | refine sq_lst (by assumption) ?_ | refine sq_ex (by assumption) ?_ | refine sl_ex (by assumption) ?_ | refine sq_mv (by assumption) ?_))
local macro_rules | `(tactic| walk_at "ex") => `(tactic| repeat (first | assumption | exact Ex.rfl' _ | refine Ex.nw ?_ (by assumption) | refine Ex.tr ?_ (by assumption)))
local macro_rules | `(tactic| walk_at "cond") => `(tactic| first | decide | exact Or.inl ⟨by omega, by omega⟩ | exact Or.inr ⟨by omega, by omega⟩ | exact ⟨by omega, by omega⟩ | omega)
local macro_rules | `(tactic| walk_at "rd1") => `(tactic| first
  | refine ⟨_, rfl, ?_⟩
  | refine ⟨_, _, rfl, rfl, ?_⟩
  | refine ⟨_, _, rfl, ?_⟩
  | refine ⟨rfl, ?_⟩
  | refine ⟨_, _, _, rfl, ?_⟩
  | (refine' ⟨_, _, _, _, rfl, rfl, ?h, ?ha, ?q⟩; (case h => walk_at "sq"); (case ha => first | assumption | rfl | exact at_c0 _ _ | exact at_c1 _ _ _ | exact at_c2 _ _ _ _ | (refine at_vals ?_; omega) | exact atI_nat (by assumption)))
  | refine ⟨_, _, _, _, rfl, ?_⟩
  | refine ⟨_, _, _, _, _, rfl, ?_⟩
  | (refine' ⟨_, _, rfl, ?h, ?ha, ?q⟩; (case h => walk_at "sq"); (case ha => first | rfl | exact Nat.le_of_ble_eq_true rfl))
  | refine Or.inr ⟨_, rfl, ?_⟩
  | (refine' ⟨_, _, rfl, Or.inr ?h, ?q⟩; (case h => walk_at "sq"))
  | (refine' ⟨_, _, rfl, Or.inl ?h, ?q⟩; (case h => walk_at "sq"))
  | refine ⟨_, _, _, _, _, rfl, .ty _, .base (.int _), kit_ty kit_ii, ?_⟩
  | refine ⟨_, _, _, _, _, rfl, .ty _, .base (.int _), kit_ty kit_ib, ?_⟩
  | refine ⟨_, _, _, _, _, rfl, .ty _, .base (.str _), kit_ty kit_ss, ?_⟩
  | refine ⟨_, _, _, _, _, rfl, .ty _, .base (.tup (by assumption)), kit_ty kit_tt, ?_⟩
  | with_reducible refine iteT ?_
  | with_reducible refine iteF ?_
  | refine ite_yes (by first | decide | omega) ?_
  | refine ite_no (by first | decide | omega) ?_
  | refine ite_no (fun z => absurd (V.str.inj z) (by assumption)) ?_
  | refine ite_no (fun z => absurd (V.int.inj z) (by omega)) ?_
  | refine ite_yes (congrArg V.int (by omega)) ?_
  | refine ite_nyes (by first | decide | omega) ?_
  | refine ite_nno (by first | decide | omega) ?_
  | (refine' And.intro (Or.inl ⟨rfl, _, ?h⟩) ?q; (case h => first | exact SqL.of (by first | assumption | exact upd_same) | walk_at "sq"))
  | (refine' And.intro ?h ?q; (case h => exact Evl.sz_of (Nat.le_of_ble_eq_true rfl)))
  | refine fun p (hp : (_ : Hp) p = none) => ?_
  | (refine' ⟨_, _, rfl, Or.inr ?h, rfl, rfl, ?q⟩; (case h => walk_at "sq"))
  | (refine' ⟨_, _, rfl, Or.inl ?h, rfl, rfl, ?q⟩; (case h => walk_at "sq"))
  | (refine' ⟨_, _, _, _, _, rfl, ?h, ?c, ?n, ?l, ?q⟩; (case h => walk_at "in"); (case c => assumption); (case n => assumption); (case l => walk_at "lk"))
  | (refine' ⟨_, _, _, rfl, ?h, ?l, ?q⟩; (case h => walk_at "in"); (case l => exact lk_none (by decide) _))
  | (refine' And.intro ?h ?q; (case h => walk_at "cond")))
local macro_rules | `(tactic| walk_at "rd") => `(tactic| repeat walk_at "rd1")
local macro_rules | `(tactic| walk_at "rs") => `(tactic| repeat' (first | walk_at "rd1" | refine ite2d (fun h => ?_) (fun h => ?_) | refine ite2n (fun h => ?_) (fun h => ?_) | refine ite2 (fun h => ?_) (fun h => ?_)))
local macro_rules | `(tactic| walk_at "pu") => `(tactic| repeat (first | assumption | refine purse_new ?_ (by assumption)))
local macro_rules | `(tactic| walk_at "mv") => `(tactic| repeat (first | assumption | exact Mv.rf _ _ | refine Mv.nw ?_ (by assumption) | refine Mv.tr ?_ (by assumption)))

variable {P : Program} {w : World} {K : PySem.W.Frag} {mg : Str → Option Value} {base : Heap} {D : Ad}
theorem BackAt.nd {H : Hp} {t : Addr} {ks : List (Int × Int)} (b : BackAt H t ks) : ks.Nodup := let ⟨_, _, _, h, _⟩ := b; h
def spWet (K : PySem.W.Frag) : Sp := fun vs H Q _ => ∃ (t sa : Addr) (h : Int → Int → Int) (ps : List (Int × Int)) (lv : Int) (s : Int × Int), vs = [.ref t, .ref sa, .int lv] ∧ H t = some (.dT (hmap h ps)) ∧ Tp H sa [.int s.1, .int s.2] ∧ s ∈ ps ∧ ps.length ≤ 1000 ∧
  ∀ (d : Addr) (H' : Hp) (ks : List (Int × Int)), Ex H H' → H d = none → BackAt H' d ks → ks.length ≤ 1000 → ks[0]? = some s → (∀ p, p ∈ ks ↔ Wet h ps lv s p) → Q (.ref d) H'
theorem h_wet_from (F : DefAt K mg "wet_from" s_wet_from [] []) (T : Txt K w mg D) (G_neighbours : Has P w K mg base 1 "neighbours" (spNb K) []) : Has P w K mg base 2 "wet_from" (spWet K) [] := by
  refine has_of F sc_wet_from (fun _ _ _ _ _ _ us hl => match us, hl with | [_, _, _], _ => rfl) ?_ ?_
  · rintro _ _ _ _ ⟨_, _, _, _, _, _, rfl, _⟩; rfl
  · rintro f cdv A outer s0 H vs Q E hr ⟨t, sa, h, ps, lv, s, rfl, ht, hsa, hsp, hpl, kk⟩
    have hu := hu_of hr
    refine ⟨_, pss_cons (ps_set (i := 3) sc_wet_from.nd rfl (Or.inl rfl) (pe_dispT1 hu (pv 1) (pe_non)))
      (pss_cons (ps_set (i := 4) sc_wet_from.nd rfl (Or.inl rfl) (pe_lst (pa_cons (pv 1) (pa_nil))))
      (pss_cons (ps_set (i := 5) sc_wet_from.nd rfl (Or.inl rfl) (pe_int))
      (pss_cons (ps_while PassesOwn.never (pt_cmpR op_lt (pv 5) (pe_callB call_len_seq (by rfl) T.f_len bt_len (pa_cons (pv 4) (pa_nil))) (nomark _)) (pss_cons (ps_for PassesOwn.never rfl (pi_list (pe_c G_neighbours (hr.mono (by decide)) (by rfl) (pa_cons (pv 0) (pa_cons (pe_ix ix_list (pv 4) (pv 5) (fun _ _ => rfl)) (pa_nil))))) (pg_name (i := 6) sc_wet_from.nd rfl (Or.inl rfl)) (pss_one (ps_if (PW.pt (pw_and (pt_cmp (pc_dnotin hu (pv 6) (pv 3)) (by rfl)) (pw_and1 (pt_cmpR op_lt (pe_dget hu (pv 0) (pv 6) (fun _ _ => rfl)) (pv 2) (nomark _))))) (pss_cons (ps_dput hu (pv 3) (pv 6) (pe_ix ix_list (pv 4) (pv 5) (fun _ _ => rfl)) rfl)
      (pss_one (ps_expr (pe_bm PySem.F.plainAttrs_list PySem.F.slot_list_append PySem.F.type_list_append mt_append (pv 4) (pa_cons (pv 6) (pa_nil)))))) (pss_nil))))
      (pss_one (ps_aug (i := 5) sc_wet_from.nd rfl (Or.inl rfl) (pe_int) ip_add))))
      (pss_one (ps_ret (pv 3)))))), ?_⟩
    walk_at "rd"
    rename_i d hd
    refine ⟨upd_same, kPt s, sa, rfl, tp_new hd hsa, ?_⟩
    walk_at "rd"
    rename_i f1 hf1
    have ndf : d ≠ f1 := ne_of_none upd_same hf1
    have hf0 : H f1 = none := by
      have := hf1
      rw [upd_ne (Ne.symm ndf), upd_ne (Ne.symm ndf)] at this
      exact this
    have hw0 : WI H h ps lv s d f1 (upd (upd (upd H d (.dT [])) d (.dT [(kPt s, .non)])) f1 (.lst [.ref sa])) [s] := by
      refine ⟨((Ex.rfl' H).nw hd |>.mu hd).nw hf1, ⟨[(kPt s, .non)], by rw [upd_ne ndf, upd_same], rfl, by simp, ?_⟩, ⟨[.ref sa], upd_same, .cons ⟨sa, rfl, ?_⟩ .nil⟩, ?_, ?_, rfl⟩
      · intro j p hj
        match j, hj with
        | 0, h => cases h; exact .inl ⟨rfl, valV_pos rfl⟩
      · exact tp_ex (((Ex.rfl' H).nw hd |>.mu hd).nw hf1) hsa
      · intro p hp; rw [List.mem_singleton.mp hp]; exact .here
      · intro p hp; rw [List.mem_singleton.mp hp]; exact hsp
    refine while_x (fun σ H' => Here (∃ ks r, WI H h ps lv s d f1 H' ks ∧ (∀ p ∈ ks, ∀ q ∈ beside p, q ∈ ps → h q.1 q.2 < lv → q ∈ ks) ∧ ∃ i : Nat, σ = [some (.ref t), some (.ref sa), some (.int lv), some (.ref d), some (.ref f1), some (.int (i : Nat)), r]))
      (fun m σ H' => Here (∃ (ks : List (Int × Int)) (i : Nat) (r : Option V), WI H h ps lv s d f1 H' ks ∧ i + m = ps.length ∧ i ≤ ks.length ∧ (∀ j p, j < i → ks[j]? = some p → ∀ q ∈ beside p, q ∈ ps → h q.1 q.2 < lv → q ∈ ks) ∧ σ = [some (.ref t), some (.ref sa), some (.int lv), some (.ref d), some (.ref f1), some (.int (i : Nat)), r])) ⟨ps.length, .it ⟨[s], 0, none, hw0, by omega, by simp, fun j p hj => absurd hj (by omega), rfl⟩⟩ ?_ ?_
    · intro σ H' hh
      obtain ⟨ks, r, W, hc, i, rfl⟩ := hh.get
      walk_at "rd"
      have hkl := nd_len W.bk.nd W.inp
      refine kk d H' ks W.ex hd W.bk (by omega) W.first fun p => ⟨W.wet p, fun hp => ?_⟩
      induction hp with
      | here => exact List.mem_of_getElem? W.first
      | step _ hq hm hl ih => exact hc _ ih _ hq hm hl
    · intro nx hnx m σ H' hh
      obtain ⟨ks, i, r, W, him, hik, hc, rfl⟩ := hh.get
      have hkl := nd_len W.bk.nd W.inp
      obtain ⟨us, hus, hp⟩ := W.fl
      have hul := pair_len hp
      have hsl := Evl.sq_of (K := K) hus
      by_cases hi : i < ks.length
      · obtain ⟨c, hci⟩ : ∃ c, ks[i]? = some c := ⟨ks[i], by simp [hi]⟩
        obtain ⟨u, hui, rc, rfl, hrc⟩ := pair_get' hp hci
        walk_at "rd"
        refine ⟨fun σ' H'' => Here (∃ (ks' : List (Int × Int)) (r : Option V), WI H h ps lv s d f1 H'' ks' ∧ i + 1 ≤ ks'.length ∧ (∀ j p, j < i + 1 → ks'[j]? = some p → ∀ q ∈ beside p, q ∈ ps → h q.1 q.2 < lv → q ∈ ks') ∧ σ' = [some (.ref t), some (.ref sa), some (.int lv), some (.ref d), some (.ref f1), some (.int ((i + 1 : Nat) : Int)), r]), ?_, ?_⟩
        · intro σ' H'' hh2
          obtain ⟨ks', r', W', h1, h2, rfl⟩ := hh2.get
          have := nd_len W'.bk.nd W'.inp
          exact ⟨ps.length - (i + 1), by omega, .it ⟨ks', i + 1, r', W', by omega, h1, h2, rfl⟩⟩
        · walk_at "rd"
          refine ⟨t, rc, h, ps, c.1, c.2, rfl, W.ex _ _ ht, tp_sq hrc, fun l H2 e2 hl hr2 => ?_⟩
          generalize hnb : (beside (c.1, c.2)).filter (fun p => decide (p ∈ ps)) = nb at hr2
          have W2 := W.mono e2
          have nlf : l ≠ f1 := fun z => by rw [z] at hl; cases hus.symm.trans hl
          have nld : l ≠ d := fun z => by
            obtain ⟨_, b1, _⟩ := W.bk
            rw [z] at hl; cases b1.symm.trans hl
          obtain ⟨ls, hls, hlp⟩ := hr2
          have hll := pair_len hlp
          walk_at "rd"
          refine ⟨⟨ls, Evl.sq_of hls⟩, ?_⟩
          refine for_list (K := K) (a := l) (xs := ls) (fun j σ H'' => Here (∃ (es : List (Int × Int)) (r : Option V), WI H h ps lv s d f1 H'' (ks ++ es) ∧ H'' l = some (.lst ls) ∧ Paired (fun u (r : Int × Int) => ∃ p, u = V.ref p ∧ Tp H'' p [.int r.1, .int r.2]) ls nb ∧ (∀ j' q, j' < j → nb[j']? = some q → h q.1 q.2 < lv → q ∈ ks ++ es) ∧ σ = [some (.ref t), some (.ref sa), some (.int lv), some (.ref d), some (.ref f1), some (.int (i : Nat)), r])) (.it ⟨[], r, by rw [List.append_nil]; exact W2, hls, hlp, fun j' q hj => absurd hj (by omega), rfl⟩) (fun j σ H'' _ hh => by obtain ⟨_, _, _, z, _⟩ := hh.get; exact Evl.sq_of z) ?_ ?_
          · intro j u σ H'' hu' hh2
            obtain ⟨es, r3, W3, hl3, hp3, hc3, rfl⟩ := hh2.get
            obtain ⟨q, hqj, rq, rfl, hrq⟩ := pair_get hp3 hu'
            obtain ⟨kvs, k1, k2, k3, k4⟩ := W3.bk
            obtain ⟨us3, l1, l2⟩ := W3.fl
            have hsl3 := Evl.sq_of (K := K) l1
            have hkl3 := nd_len W3.bk.nd W3.inp
            have hqn : q ∈ beside c ∧ q ∈ ps := by
              have := List.mem_of_getElem? hqj
              rw [← hnb, List.mem_filter] at this
              exact ⟨this.1, by simpa using this.2⟩
            have hjs : ∀ (es' : List (Int × Int)), (∀ p, p ∈ ks ++ es → p ∈ ks ++ es') → (h q.1 q.2 < lv → q ∈ ks ++ es') → ∀ j' q', j' < j + 1 → nb[j']? = some q' → h q'.1 q'.2 < lv → q' ∈ ks ++ es' := by
              intro es' hs he j' q' hj hq' hl'
              by_cases e : j' = j
              · subst e
                rw [hqj] at hq'
                cases hq'
                exact he hl'
              · exact hs _ (hc3 j' q' (by omega) hq' hl')
            obtain ⟨u3, hui3, rc3, rfl, hrc3⟩ := pair_get' l2 (get_app (gs := es) hci)
            have hkvl : kvs.length = (ks ++ es).length := by
              have := congrArg List.length k2
              rw [List.length_map, List.length_map] at this
              exact this
            have husl := pair_len l2
            walk_at "rd"
            refine ⟨d, _, rfl, .inr ⟨kvs, kPt q, rq, .inl k1, rfl, hrq, rfl⟩, ?_⟩
            rcases back_get (H := H'') (d := d) k2 q with ⟨hm, v, hv⟩ | ⟨hm, hv⟩
            · rw [hv]
              walk_at "rd"
              exact .it ⟨es, _, W3, hl3, hp3, hjs es (fun _ h => h) (fun _ => hm), rfl⟩
            · rw [hv]
              walk_at "rd"
              refine ⟨t, .int (h q.1 q.2), rfl, .inr ⟨_, kPt q, rq, .inl (W3.ex _ _ ht), rfl, hrq, (by rw [valV_hmap, if_pos hqn.2])⟩, ?_⟩
              by_cases hlv : h q.1 q.2 < lv
              · walk_at "rd"
                refine ⟨d, _, rfl, .inr ⟨kvs, kPt q, rq, k1, rfl, hrq, Evl.sz_lt (by omega), rfl⟩, ?_⟩
                rw [putK_new _ hv]
                have ndf2 : f1 ≠ d := Ne.symm ndf
                have l3 : (upd H'' d (.dT (kvs ++ [(kPt q, .ref rc3)]))) f1 = some (.lst us3) := by rw [upd_ne ndf2]; exact l1
                walk_at "rd"
                refine ⟨f1, us3, _, rfl, rfl, l3, Evl.sz_lt (by omega), ?_⟩
                walk_at "rd"
                refine .it ⟨es ++ [q], some (.ref rq), ?_, ?_, ?_, ?_, rfl⟩
                · rw [← List.append_assoc]
                  exact W3.add hd hf0 k1 l1 (get_app (gs := es) hci) hrc3 hrq hm hqn.1 hqn.2 hlv
                · rw [upd_ne nlf, upd_ne nld]
                  exact hl3
                · refine past_rg (fun p xs hp => ?_) hp3
                  have n1 : p ≠ d := fun z => by subst z; cases k1.symm.trans hp
                  have n2 : p ≠ f1 := fun z => by subst z; cases l1.symm.trans hp
                  show (upd (upd H'' d _) f1 _) p = _
                  rw [upd_ne n2, upd_ne n1]; exact hp
                · exact hjs (es ++ [q]) (fun p hp => by rw [← List.append_assoc]; exact List.mem_append_left _ hp) (fun _ => by rw [← List.append_assoc]; exact List.mem_append_right _ (List.mem_singleton.mpr rfl))
              · walk_at "rd"
                exact .it ⟨es, _, W3, hl3, hp3, hjs es (fun _ h => h) (fun z => absurd z hlv), rfl⟩
          · intro σ H'' hh2
            obtain ⟨es, r3, W3, hl3, hp3, hc3, rfl⟩ := hh2.get
            walk_at "rd"
            refine .it ⟨ks ++ es, r3, W3, by rw [List.length_append]; omega, ?_, rfl⟩
            intro j p hj hpj q hq hm hl'
            by_cases e : j = i
            · subst e
              rw [get_app (gs := es) hci] at hpj
              cases hpj
              have hqn : q ∈ nb := by rw [← hnb, List.mem_filter]; exact ⟨hq, by simpa using hm⟩
              obtain ⟨j', hj', ej⟩ := List.mem_iff_getElem.mp hqn
              exact hc3 j' q (by omega) (by simp [hj', ej]) hl'
            · rw [List.getElem?_append_left (by omega)] at hpj
              exact List.mem_append_left _ (hc j p (by omega) hpj q hq hm hl')
      · walk_at "rd"
        refine hnx _ _ (.it ⟨ks, r, W, fun p hp' q hq hm hl => ?_, i, rfl⟩)
        obtain ⟨j, hj, ej⟩ := List.mem_iff_getElem.mp hp'
        exact hc j p (by omega) (by simp [hj, ej]) q hq hm hl

end Kw
set_option Elab.async false
set_option linter.all false
set_option maxRecDepth 100000
set_option maxHeartbeats 2000000
namespace Kw
open PySem PySem.Spec PyProof.Rows L2
local macro_rules | `(tactic| walk_at "in") => `(tactic| repeat (first | assumption | refine in_new (by assumption) ?_ | refine in_ex (by assumption) ?_))
local macro_rules | `(tactic| walk_at "lk") => `(tactic| first | exact lk_laid _ | exact lk_code _ | exact lk_grain _ | exact lk_past _ | exact lk_future _ | exact lk_shelf _ | exact lk_last _)
local macro_rules | `(tactic| walk_at "tp") => `(tactic| repeat (first | assumption | exact tp_up | refine tp_new (by assumption) ?_ | refine tp_lst (by assumption) ?_ | refine tp_ex (by assumption) ?_ | refine tp_mv (by assumption) ?_))
local macro_rules | `(tactic| walk_at "sq") => `(tactic| repeat (first | assumption | exact sq_up | exact sl_up | exact tp_sq (by assumption) | exact Evl.sq_of (by assumption) | refine sq_new (by assumption) ?_ | refine sl_new (by assumption) ?_ | refine sq_lst (by assumption) ?_ | refine sq_ex (by assumption) ?_ | refine sl_ex (by assumption) ?_ | refine sq_mv (by assumption) ?_))
local macro_rules | `(tactic| walk_at "ex") => `(tactic| repeat (first | assumption | exact Ex.rfl' _ | refine Ex.nw ?_ (by assumption) | refine Ex.tr ?_ (by assumption)))
local macro_rules | `(tactic| walk_at "cond") => `(tactic| first | decide | exact Or.inl ⟨by omega, by omega⟩ | exact Or.inr ⟨by omega, by omega⟩ | exact ⟨by omega, by omega⟩ | omega)
local macro_rules | `(tactic| walk_at "rd1") => `(tactic| first
  | refine ⟨_, rfl, ?_⟩
  | refine ⟨_, _, rfl, rfl, ?_⟩
  | refine ⟨_, _, rfl, ?_⟩
  | refine ⟨rfl, ?_⟩
  | refine ⟨_, _, _, rfl, ?_⟩
  | (refine' ⟨_, _, _, _, rfl, rfl, ?h, ?ha, ?q⟩; (case h => walk_at "sq"); (case ha => first | assumption | rfl | exact at_c0 _ _ | exact at_c1 _ _ _ | exact at_c2 _ _ _ _ | (refine at_vals ?_; omega) | exact atI_nat (by assumption)))
  | refine ⟨_, _, _, _, rfl, ?_⟩
  | refine ⟨_, _, _, _, _, rfl, ?_⟩
  | (refine' ⟨_, _, rfl, ?h, ?ha, ?q⟩; (case h => walk_at "sq"); (case ha => first | rfl | exact Nat.le_of_ble_eq_true rfl))
  | refine Or.inr ⟨_, rfl, ?_⟩
  | (refine' ⟨_, _, rfl, Or.inr ?h, ?q⟩; (case h => walk_at "sq"))
  | (refine' ⟨_, _, rfl, Or.inl ?h, ?q⟩; (case h => walk_at "sq"))
  | refine ⟨_, _, _, _, _, rfl, .ty _, .base (.int _), kit_ty kit_ii, ?_⟩
  | refine ⟨_, _, _, _, _, rfl, .ty _, .base (.int _), kit_ty kit_ib, ?_⟩
  | refine ⟨_, _, _, _, _, rfl, .ty _, .base (.str _), kit_ty kit_ss, ?_⟩
  | refine ⟨_, _, _, _, _, rfl, .ty _, .base (.tup (by assumption)), kit_ty kit_tt, ?_⟩
  | with_reducible refine iteT ?_
  | with_reducible refine iteF ?_
  | refine ite_yes (by first | decide | omega) ?_
  | refine ite_no (by first | decide | omega) ?_
  | refine ite_no (fun z => absurd (V.str.inj z) (by assumption)) ?_
  | refine ite_no (fun z => absurd (V.int.inj z) (by omega)) ?_
  | refine ite_yes (congrArg V.int (by omega)) ?_
  | refine ite_nyes (by first | decide | omega) ?_
  | refine ite_nno (by first | decide | omega) ?_
  | (refine' And.intro (Or.inl ⟨rfl, _, ?h⟩) ?q; (case h => first | exact SqL.of (by first | assumption | exact upd_same) | walk_at "sq"))
  | (refine' And.intro ?h ?q; (case h => exact Evl.sz_of (Nat.le_of_ble_eq_true rfl)))
  | refine fun p (hp : (_ : Hp) p = none) => ?_
  | (refine' ⟨_, _, rfl, Or.inr ?h, rfl, rfl, ?q⟩; (case h => walk_at "sq"))
  | (refine' ⟨_, _, rfl, Or.inl ?h, rfl, rfl, ?q⟩; (case h => walk_at "sq"))
  | (refine' ⟨_, _, _, _, _, rfl, ?h, ?c, ?n, ?l, ?q⟩; (case h => walk_at "in"); (case c => assumption); (case n => assumption); (case l => walk_at "lk"))
  | (refine' ⟨_, _, _, rfl, ?h, ?l, ?q⟩; (case h => walk_at "in"); (case l => exact lk_none (by decide) _))
  | (refine' And.intro ?h ?q; (case h => walk_at "cond")))
local macro_rules | `(tactic| walk_at "rd") => `(tactic| repeat walk_at "rd1")
local macro_rules | `(tactic| walk_at "rs") => `(tactic| repeat' (first | walk_at "rd1" | refine ite2d (fun h => ?_) (fun h => ?_) | refine ite2n (fun h => ?_) (fun h => ?_) | refine ite2 (fun h => ?_) (fun h => ?_)))
local macro_rules | `(tactic| walk_at "pu") => `(tactic| repeat (first | assumption | refine purse_new ?_ (by assumption)))
local macro_rules | `(tactic| walk_at "mv") => `(tactic| repeat (first | assumption | exact Mv.rf _ _ | refine Mv.nw ?_ (by assumption) | refine Mv.tr ?_ (by assumption)))

variable {P : Program} {w : World} {K : PySem.W.Frag} {mg : Str → Option Value} {base : Heap} {D : Ad}
/-! ### points as data -/
def dPt (p : Int × Int) : PyData := .tuple [.int p.1, .int p.2]
theorem dat_pt {H : Hp} {r : Addr} {p : Int × Int} (h : Tp H r [.int p.1, .int p.2]) : Dat K H 1 (.ref r) (dPt p) := dat_2 (n := 0) h (dat_int _) (dat_int _)
abbrev PtsP (H : Hp) (us : List V) (rs : List (Int × Int)) : Prop := Paired (fun u (r : Int × Int) => ∃ p, u = V.ref p ∧ Tp H p [.int r.1, .int r.2]) us rs
theorem dpall_pts {H : Hp} : ∀ {us : List V} {rs : List (Int × Int)}, PtsP H us rs → DpAll K H us (rs.map dPt)
  | _, _, .nil => .nil
  | _, _, .cons ⟨_, e, h⟩ t => by subst e; exact .cons (dat_pt h).dp (dpall_pts t)
theorem lay_pts : ∀ rs : List (Int × Int), PyData.canLayAll0 (rs.map dPt) = true ∧ PyData.depthAll (rs.map dPt) ≤ 1
  | [] => ⟨rfl, Nat.zero_le _⟩
  | r :: rs => by
    obtain ⟨h1, h2⟩ := lay_pts rs
    refine ⟨by simp [PyData.canLayAll0, PyData.canLay0, dPt, h1], ?_⟩
    simp [PyData.depthAll, dPt, PyData.depth]
    omega
theorem dat_pts {H : Hp} {l : Addr} {us : List V} {rs : List (Int × Int)} (h : H l = some (.lst us)) (hp : PtsP H us rs) : Dat K H 2 (.ref l) (.list (rs.map dPt)) :=
  ⟨.lst (Evl.sq_of h) (dpall_pts hp), (lay_pts rs).1, by have := (lay_pts rs).2; simp only [PyData.depth]; omega⟩
theorem eqv_pt (p q : Int × Int) : PyData.eqv (dPt p) (dPt q) = decide (p = q) := by
  obtain ⟨a, b⟩ := p
  obtain ⟨c, d⟩ := q
  simp [dPt, PyData.eqv, PyData.eqvAll, Prod.ext_iff]
  by_cases h1 : a = c <;> by_cases h2 : b = d <;> simp [h1, h2]
theorem eqvAll_pts : ∀ rs : List (Int × Int), PyData.eqvAll (rs.map dPt) (rs.map dPt) = true
  | [] => by simp [PyData.eqvAll]
  | r :: rs => by simp [PyData.eqvAll, eqv_pt, eqvAll_pts rs]
theorem any_pts (rs : List (Int × Int)) (p : Int × Int) : ((rs.map dPt).any fun z => PyData.eqv z (dPt p)) = decide (p ∈ rs) := by
  rw [List.any_map]
  by_cases h : p ∈ rs
  · rw [decide_eq_true h, List.any_eq_true]
    exact ⟨p, h, by simp [eqv_pt]⟩
  · rw [decide_eq_false h, List.any_eq_false]
    intro q hq
    simp only [Function.comp, eqv_pt, decide_eq_true_eq]
    exact fun e => h (e ▸ hq)
/-- a lock that is gone -/
theorem Ex.unfrz {H H' : Hp} {d : Addr} {u : HO} {o : Obj} (hd : H d = some u) (e : Ex (upd H d (.frz o u)) H') : Ex H (upd H' d u) := fun x y h => by
  by_cases c : x = d
  · subst c
    rw [hd] at h
    cases h
    exact upd_same
  · rw [upd_ne c]
    exact e _ _ (by rw [upd_ne c]; exact h)
theorem sq_frz {H : Hp} {t q : Addr} {o : Obj} {kvs : List (List Key × V)} {xs : List V} (hd : H t = some (.dT kvs)) (h : SqT K H q xs) : SqT K (upd H t (.frz o (.dT kvs))) q xs := by
  rcases h with (h | ⟨o', h⟩) | h
  · exact .inl (.inl (by rw [upd_ne (fun z => by rw [z, hd] at h; cases h)]; exact h))
  · exact .inl (.inr ⟨o', by rw [upd_ne (fun z => by rw [z, hd] at h; cases h)]; exact h⟩)
  · exact .inr h
/-! ### first_out -/
def spFirst (K : PySem.W.Frag) : Sp := fun vs H Q _ => ∃ (q t : Addr) (ks : List (Int × Int)) (a b c d : Int), vs = [.ref q, .ref t] ∧ SqT K H q [.int a, .int b, .int c, .int d] ∧ BackAt H t ks ∧ ks.length ≤ 1000 ∧
  (∀ H', Ex H H' → (∀ p ∈ ks, atEdge a b c d p.1 p.2 = false) → Q .non H') ∧ ∀ (H' : Hp) (r : Addr) (j : Nat) (p : Int × Int), Ex H H' → ks[j]? = some p → atEdge a b c d p.1 p.2 = true → Tp H' r [.int p.1, .int p.2] → Q (.ref r) H'
theorem h_first_out (F : DefAt K mg "first_out" s_first_out [] []) (T : Txt K w mg D) (G_at_edge : Has P w K mg base 1 "at_edge" (spAtEdge K) []) : Has P w K mg base 2 "first_out" (spFirst K) [] := by
  refine has_of F sc_first_out (fun _ _ _ _ _ _ us hl => match us, hl with | [_, _], _ => rfl) ?_ ?_
  · rintro _ _ _ _ ⟨_, _, _, _, _, _, _, rfl, _⟩; rfl
  · rintro f cdv A outer s0 H vs Q E hr ⟨q, t, ks, a, b, c, d, rfl, hq, ⟨kvs, ht, hk, hnd, hval⟩, hlen, k1, k2⟩
    have hu := hu_of hr
    refine ⟨_, pss_cons (ps_lock (ps_setLc (i := 2) (own := [("point", 3)]) (g := (gName 3)) rfl sc_first_out.nd rfl rfl (sw_true rfl rfl rfl (by decide +kernel)) (pi_keys (pv 1)) (blkOk_by (own := [("point", 3)]) (N := nm_first_out) (sc := defScope s_first_out) (by decide +kernel)) (fun _ _ _ _ _ => pg_name (i := 3) sc_first_out.nd rfl (Or.inl rfl)) (fun _ _ _ _ _ => pts_one (pt_val (pe_c G_at_edge (hr.mono (by decide)) (by rfl) (pa_cons (pv 0) (pa_cons (pv 3) (pa_nil)))))) (fun _ _ _ _ _ => pv 3)))
      (pss_one (ps_ret (pe_ifExp (pt_cmpR (op_eqD hr.units) (pv 2) (pe_lst (pa_nil)) (nomark _)) (pe_non) (pe_ix ix_list (pv 2) (pe_int) (fun _ _ => rfl))))), ?_⟩
    refine ⟨t, .dT kvs, ht, trivial, fun od => ?_⟩
    have hq1 : SqT K (upd H t (.frz od (.dT kvs))) q [.int a, .int b, .int c, .int d] := sq_frz ht hq
    have ht1 : (upd H t (.frz od (.dT kvs))) t = some (.frz od (.dT kvs)) := upd_same
    walk_at "rd"
    refine ⟨t, od, rfl, .inr ⟨kvs, ht1, ?_⟩⟩
    intro l hl
    have nlt : l ≠ t := fun z => by rw [z, ht1] at hl; cases hl
    have hkl : kvs.length = ks.length := by
      have := congrArg List.length hk
      rw [List.length_map, List.length_map] at this
      exact this
    refine lw_keys (d := t) (o := od) (kvs := kvs) (fun i H' => Here (Ex (upd H t (.frz od (.dT kvs))) H' ∧ ∃ us, H' l = some (.lst us) ∧ PtsP H' us ((ks.take i).filter fun p => atEdge a b c d p.1 p.2))) (.it ⟨Ex.nw (Ex.rfl' _) hl, [], upd_same, .nil⟩) (fun i H' _ hh => hh.get.1 _ _ ht1) ?_ ?_
    · intro i k v q' H' hi hq' hh
      obtain ⟨he, us, hus, hp⟩ := hh.get
      obtain ⟨p, hpi, rfl⟩ : ∃ p, ks[i]? = some p ∧ k = kPt p := by
        have h1 : (kvs.map (·.1))[i]? = some k := by rw [List.getElem?_map, hi]; rfl
        rw [hk, List.getElem?_map] at h1
        cases h2 : ks[i]? with
        | none => rw [h2] at h1; cases h1
        | some p => rw [h2] at h1; exact ⟨p, rfl, (Option.some.inj h1).symm⟩
      have hqt : Tp H' q' [.int p.1, .int p.2] := hq'
      have hil := (List.getElem?_eq_some_iff.mp hpi).1
      have hlen2 := pair_len hp
      have hfl : ((ks.take i).filter fun p => atEdge a b c d p.1 p.2).length ≤ ks.length := Nat.le_trans (List.length_filter_le ..) (by rw [List.length_take]; omega)
      walk_at "rd"
      refine ⟨q, q', a, b, c, d, p.1, p.2, rfl, sq_ex he hq1, tp_sq hqt, fun H2 e2 => ?_⟩
      have he2 := he.tr e2
      have hp2 := past_rg (.ex e2) hp
      have hus2 := e2 _ _ hus
      cases hed : atEdge a b c d p.1 p.2 with
      | false =>
        walk_at "rd"
        refine .it ⟨he2, us, hus2, ?_⟩
        rw [take_snoc hpi, List.filter_append, List.filter_cons_of_neg (p := fun p : Int × Int => atEdge a b c d p.1 p.2) (by simp only [hed]; exact Bool.false_ne_true), List.filter_nil, List.append_nil]
        exact hp2
      | true =>
        walk_at "rd"
        refine ⟨us, hus2, Evl.sz_lt (by omega), .it ⟨he2.mu hl, us ++ [.ref q'], upd_same, ?_⟩⟩
        rw [take_snoc hpi, List.filter_append, List.filter_cons_of_pos (p := fun p : Int × Int => atEdge a b c d p.1 p.2) (by exact hed), List.filter_nil]
        exact pair_snoc (past_rg (fun p xs h => tp_lst hus2 h) hp2) ⟨q', rfl, tp_lst hus2 (tp_ex e2 hqt)⟩
    · intro H' hh
      obtain ⟨he, us, hus, hp⟩ := hh.get
      rw [List.take_of_length_le (by omega)] at hp
      walk_at "rd"
      refine ⟨he _ _ ht1, ?_⟩
      have e9 : Ex H (upd H' t (.dT kvs)) := Ex.unfrz ht he
      have hl9 : (upd H' t (.dT kvs)) l = some (.lst us) := by rw [upd_ne nlt]; exact hus
      have ht9 : H' t = some (.frz od (.dT kvs)) := he _ _ ht1
      have hp9 : PtsP (upd H' t (.dT kvs)) us (ks.filter fun p => atEdge a b c d p.1 p.2) := past_rg (fun p xs h => by
        have n1 : p ≠ t := fun z => by
          subst z
          cases ht9.symm.trans h
        show (upd H' t _) p = _
        rw [upd_ne n1]; exact h) hp
      generalize upd H' t (.dT kvs) = H9 at *
      have hfm : ∀ p ∈ ks.filter (fun p => atEdge a b c d p.1 p.2), p ∈ ks ∧ atEdge a b c d p.1 p.2 = true := fun p hp => List.mem_filter.mp hp
      have hfn : ks.filter (fun p => atEdge a b c d p.1 p.2) = [] → ∀ p ∈ ks, atEdge a b c d p.1 p.2 = false := fun z p hp => by
        cases e : atEdge a b c d p.1 p.2 with
        | false => rfl
        | true => have := (List.mem_filter (p := fun p : Int × Int => atEdge a b c d p.1 p.2)).mpr ⟨hp, e⟩; rw [z] at this; cases this
      generalize ks.filter (fun p => atEdge a b c d p.1 p.2) = fs at *
      walk_at "rd"
      rename_i p0 hp0
      have eA : Ex H9 (upd H9 p0 (.lst [])) := Ex.nw (Ex.rfl' _) hp0
      have hdat := (dat_pts (K := K) hl9 hp9).mono eA
      refine ⟨.list (fs.map dPt), .list [], hdat.dp, .lst sl_up .nil, hdat.shp (by decide), rfl, ?_⟩
      have hsl := Evl.sq_of (K := K) (eA _ _ hl9)
      cases hp9 with
      | nil =>
        rw [show PyData.eqv (.list (([] : List (Int × Int)).map dPt)) (.list []) = true by simp [PyData.eqv, PyData.eqvAll]]
        walk_at "rd"
        exact k1 _ (e9.tr eA) (hfn rfl)
      | @cons u p us' fs' hu1 htl =>
        obtain ⟨r, rfl, hr1⟩ := hu1
        rw [show PyData.eqv (.list ((p :: fs').map dPt)) (.list []) = false by simp [PyData.eqv, PyData.eqvAll]]
        walk_at "rd"
        obtain ⟨hm, hed⟩ := hfm p (List.mem_cons_self ..)
        obtain ⟨j, hj, ej⟩ := List.mem_iff_getElem.mp hm
        exact k2 _ r j p (e9.tr eA) (by simp [hj, ej]) hed (tp_ex eA hr1)

end Kw
set_option Elab.async false
set_option linter.all false
set_option maxRecDepth 100000
set_option maxHeartbeats 2000000
namespace Kw
open PySem PySem.Spec PyProof.Rows L2
local macro_rules | `(tactic| walk_at "in") => `(tactic| repeat (first | assumption | refine in_new (by assumption) ?_ | refine in_ex (by assumption) ?_))
local macro_rules | `(tactic| walk_at "lk") => `(tactic| first | exact lk_laid _ | exact lk_code _ | exact lk_grain _ | exact lk_past _ | exact lk_future _ | exact lk_shelf _ | exact lk_last _)
local macro_rules | `(tactic| walk_at "tp") => `(tactic| repeat (first | assumption | exact tp_up | refine tp_new (by assumption) ?_ | refine tp_lst (by assumption) ?_ | refine tp_ex (by assumption) ?_ | refine tp_mv (by assumption) ?_))
local macro_rules | `(tactic| walk_at "sq") => `(tactic| repeat (first | assumption | exact sq_up | exact sl_up | exact tp_sq (by assumption) | exact Evl.sq_of (by assumption) | refine sq_new (by assumption) ?_ | refine sl_new (by assumption) ?_ | refine sq_lst (by assumption) ?_ | refine sq_ex (by assumption) ?_ | refine sl_ex (by assumption) ?_ | refine sq_mv (by assumption) ?_))
local macro_rules | `(tactic| walk_at "ex") => `(tactic| repeat (first | assumption | exact Ex.rfl' _ | refine Ex.nw ?_ (by assumption) | refine Ex.tr ?_ (by assumption)))
local macro_rules | `(tactic| walk_at "cond") => `(tactic| first | decide | exact Or.inl ⟨by omega, by omega⟩ | exact Or.inr ⟨by omega, by omega⟩ | exact ⟨by omega, by omega⟩ | omega)
local macro_rules | `(tactic| walk_at "rd1") => `(tactic| first
  | refine ⟨_, rfl, ?_⟩
  | refine ⟨_, _, rfl, rfl, ?_⟩
  | refine ⟨_, _, rfl, ?_⟩
  | refine ⟨rfl, ?_⟩
  | refine ⟨_, _, _, rfl, ?_⟩
  | (refine' ⟨_, _, _, _, rfl, rfl, ?h, ?ha, ?q⟩; (case h => walk_at "sq"); (case ha => first | assumption | rfl | exact at_c0 _ _ | exact at_c1 _ _ _ | exact at_c2 _ _ _ _ | (refine at_vals ?_; omega) | exact atI_nat (by assumption)))
  | refine ⟨_, _, _, _, rfl, ?_⟩
  | refine ⟨_, _, _, _, _, rfl, ?_⟩
  | (refine' ⟨_, _, rfl, ?h, ?ha, ?q⟩; (case h => walk_at "sq"); (case ha => first | rfl | exact Nat.le_of_ble_eq_true rfl))
  | refine Or.inr ⟨_, rfl, ?_⟩
  | (refine' ⟨_, _, rfl, Or.inr ?h, ?q⟩; (case h => walk_at "sq"))
  | (refine' ⟨_, _, rfl, Or.inl ?h, ?q⟩; (case h => walk_at "sq"))
  | refine ⟨_, _, _, _, _, rfl, .ty _, .base (.int _), kit_ty kit_ii, ?_⟩
  | refine ⟨_, _, _, _, _, rfl, .ty _, .base (.int _), kit_ty kit_ib, ?_⟩
  | refine ⟨_, _, _, _, _, rfl, .ty _, .base (.str _), kit_ty kit_ss, ?_⟩
  | refine ⟨_, _, _, _, _, rfl, .ty _, .base (.tup (by assumption)), kit_ty kit_tt, ?_⟩
  | with_reducible refine iteT ?_
  | with_reducible refine iteF ?_
  | refine ite_yes (by first | decide | omega) ?_
  | refine ite_no (by first | decide | omega) ?_
  | refine ite_no (fun z => absurd (V.str.inj z) (by assumption)) ?_
  | refine ite_no (fun z => absurd (V.int.inj z) (by omega)) ?_
  | refine ite_yes (congrArg V.int (by omega)) ?_
  | refine ite_nyes (by first | decide | omega) ?_
  | refine ite_nno (by first | decide | omega) ?_
  | (refine' And.intro (Or.inl ⟨rfl, _, ?h⟩) ?q; (case h => first | exact SqL.of (by first | assumption | exact upd_same) | walk_at "sq"))
  | (refine' And.intro ?h ?q; (case h => exact Evl.sz_of (Nat.le_of_ble_eq_true rfl)))
  | refine fun p (hp : (_ : Hp) p = none) => ?_
  | (refine' ⟨_, _, rfl, Or.inr ?h, rfl, rfl, ?q⟩; (case h => walk_at "sq"))
  | (refine' ⟨_, _, rfl, Or.inl ?h, rfl, rfl, ?q⟩; (case h => walk_at "sq"))
  | (refine' ⟨_, _, _, _, _, rfl, ?h, ?c, ?n, ?l, ?q⟩; (case h => walk_at "in"); (case c => assumption); (case n => assumption); (case l => walk_at "lk"))
  | (refine' ⟨_, _, _, rfl, ?h, ?l, ?q⟩; (case h => walk_at "in"); (case l => exact lk_none (by decide) _))
  | (refine' And.intro ?h ?q; (case h => walk_at "cond")))
local macro_rules | `(tactic| walk_at "rd") => `(tactic| repeat walk_at "rd1")
local macro_rules | `(tactic| walk_at "rs") => `(tactic| repeat' (first | walk_at "rd1" | refine ite2d (fun h => ?_) (fun h => ?_) | refine ite2n (fun h => ?_) (fun h => ?_) | refine ite2 (fun h => ?_) (fun h => ?_)))
local macro_rules | `(tactic| walk_at "pu") => `(tactic| repeat (first | assumption | refine purse_new ?_ (by assumption)))
local macro_rules | `(tactic| walk_at "mv") => `(tactic| repeat (first | assumption | exact Mv.rf _ _ | refine Mv.nw ?_ (by assumption) | refine Mv.tr ?_ (by assumption)))

variable {P : Program} {w : World} {K : PySem.W.Frag} {mg : Str → Option Value} {base : Heap} {D : Ad}
/-! ### poured -/
abbrev hF (h : Int → Int → Int) : KwM.Pt → Int := fun p => h p.1 p.2
theorem grid_in {a b c d : Int} {p : Int × Int} (hac : a ≤ c) (hbd : b ≤ d) : p ∈ gridP a b (c + 1 - a).toNat (d + 1 - b).toNat ↔ KwM.inB ⟨a, b, c, d⟩ p := by
  rw [gridP_mem]
  unfold KwM.inB
  simp only
  omega
theorem beside_iff {p q : Int × Int} : q ∈ beside p ↔ KwM.beside p q := by
  obtain ⟨a, b⟩ := p
  obtain ⟨c, d⟩ := q
  simp only [beside, KwM.beside, List.mem_cons, List.not_mem_nil, or_false, Prod.mk.injEq, Int.add_zero]
theorem wet_iff {h : Int → Int → Int} {a b c d lv : Int} {s p : Int × Int} (hac : a ≤ c) (hbd : b ≤ d) : Wet h (gridP a b (c + 1 - a).toNat (d + 1 - b).toNat) lv s p ↔ KwM.Rch (hF h) ⟨a, b, c, d⟩ lv s p := by
  constructor
  · intro r
    induction r with
    | here => exact .base
    | step _ hq hm hl ih => exact .step ih (beside_iff.mp hq) ((grid_in hac hbd).mp hm) hl
  · intro r
    induction r with
    | base => exact .here
    | step _ hq hm hl ih => exact .step ih (beside_iff.mpr hq) ((grid_in hac hbd).mpr hm) hl
theorem edge_iff {a b c d : Int} {p : Int × Int} : atEdge a b c d p.1 p.2 = true ↔ KwM.edge ⟨a, b, c, d⟩ p := by
  unfold atEdge KwM.edge
  simp only [Bool.or_eq_true, decide_eq_true_eq]
  omega
theorem in_iff {a b c d x z : Int} : inBx a b c d x z = true ↔ KwM.inB ⟨a, b, c, d⟩ (x, z) := by
  unfold inBx KwM.inB
  simp only [Bool.and_eq_true, decide_eq_true_eq]
  omega
abbrev BxOk (a b c d : Int) : Prop := -1000000 ≤ a ∧ a ≤ c ∧ c ≤ a + 20 ∧ c ≤ 1000000 ∧ -1000000 ≤ b ∧ b ≤ d ∧ d ≤ b + 20 ∧ d ≤ 1000000
def spPoured (K : PySem.W.Frag) (D : Ad) : Sp := fun vs H Q _ => ∃ (s q g : Addr) (L : Lnd) (a b c d x z lv : Int), vs = [.ref s, .ref q, .ref g, .int lv] ∧ LandAt D H s L ∧ SqT K H q [.int a, .int b, .int c, .int d] ∧ Tp H g [.int x, .int z] ∧ BxOk a b c d ∧ inBx a b c d x z = true ∧
  (∀ (H' : Hp) (t : Addr), Ex H H' → lv ≤ L.h x z → Tp H' t [.str "dry"] → Q (.ref t) H') ∧
  (∀ (H' : Hp) (t l : Addr) (rs : List (Int × Int)), Ex H H' → L.h x z < lv → ¬ KwM.Out (hF L.h) ⟨a, b, c, d⟩ lv (x, z) → Tp H' t [.str "holds", .ref l] → RgL H' l rs → rs.Nodup → rs.Pairwise LeP → (∀ p, p ∈ rs ↔ KwM.Rch (hF L.h) ⟨a, b, c, d⟩ lv (x, z) p) → rs.length ≤ 1000 → Q (.ref t) H') ∧
  (∀ (H' : Hp) (t l : Addr), Ex H H' → L.h x z < lv → KwM.Out (hF L.h) ⟨a, b, c, d⟩ lv (x, z) → Tp H' t [.str "runs", .ref l] → Q (.ref t) H')
theorem grid_len {a b c d : Int} (hb : BxOk a b c d) : (gridP a b (c + 1 - a).toNat (d + 1 - b).toNat).length ≤ 441 := by
  unfold BxOk at hb
  rw [gridP_len]
  have h1 : (c + 1 - a).toNat ≤ 21 := by omega
  have h2 : (d + 1 - b).toNat ≤ 21 := by omega
  have := Nat.mul_le_mul h1 h2
  omega
theorem pts_of_paired {H : Hp} : ∀ {bs : List Addr} {qs : List (Int × Int)}, Paired (fun b q => H b = some (.tup [.int q.1, .int q.2])) bs qs → PtsP H (bs.map V.ref) qs
  | _, _, .nil => .nil
  | _, _, .cons h t => .cons ⟨_, rfl, h⟩ (pts_of_paired t)
theorem h_poured (F : DefAt K mg "poured" s_poured [] []) (T : Txt K w mg D) (G_must_spring : Has P w K mg base 3 "must_spring" (spSpring K) []) (G_heights_in : Has P w K mg base 27 "heights_in" (spHeights K D) []) (G_wet_from : Has P w K mg base 2 "wet_from" (spWet K) []) (G_first_out : Has P w K mg base 2 "first_out" (spFirst K) []) (G_led : Has P w K mg base 1 "led" spLed []) : Has P w K mg base 28 "poured" (spPoured K D) [] := by
  refine has_of F sc_poured (fun _ _ _ _ _ _ us hl => match us, hl with | [_, _, _, _], _ => rfl) ?_ ?_
  · rintro _ _ _ _ ⟨_, _, _, _, _, _, _, _, _, _, _, rfl, _⟩; rfl
  · rintro f cdv A outer s0 H vs Q E hr ⟨s, q, g, L, a, b, c, d, x, z, lv, rfl, hL, hq, hg, hb, hin, k1, k2, k3⟩
    have hu := hu_of hr
    refine ⟨_, pss_cons (ps_expr (pe_c G_must_spring (hr.mono (by decide)) (by rfl) (pa_cons (pv 1) (pa_cons (pv 2) (pa_nil)))))
      (pss_cons (ps_set (i := 4) sc_poured.nd rfl (Or.inl rfl) (pe_c G_heights_in (hr.mono (by decide)) (by rfl) (pa_cons (pv 0) (pa_cons (pv 1) (pa_nil)))))
      (pss_cons (ps_if (pt_cmpR op_ge (pe_dget hu (pv 4) (pv 2) (fun _ _ => rfl)) (pv 3) (nomark _)) (pss_one (ps_ret (pe_tup (pa_cons (pe_str) (pa_nil))))) (pss_nil))
      (pss_cons (ps_set (i := 5) sc_poured.nd rfl (Or.inl rfl) (pe_c G_wet_from (hr.mono (by decide)) (by rfl) (pa_cons (pv 4) (pa_cons (pv 2) (pa_cons (pv 3) (pa_nil))))))
      (pss_cons (ps_set (i := 6) sc_poured.nd rfl (Or.inl rfl) (pe_c G_first_out (hr.mono (by decide)) (by rfl) (pa_cons (pv 1) (pa_cons (pv 5) (pa_nil)))))
      (pss_cons (ps_if (pt_cmpR op_isN (pv 6) (pe_non) (nomark _)) (pss_one (ps_ret (pe_tup (pa_cons (pe_str) (pa_cons (pe_callB (cr_sortedDT rfl) (by rfl) T.f_sorted bt_sorted (pa_cons (pv 5) (pa_nil))) (pa_nil)))))) (pss_nil))
      (pss_one (ps_ret (pe_tup (pa_cons (pe_str) (pa_cons (pe_c G_led (hr.mono (by decide)) (by rfl) (pa_cons (pv 5) (pa_cons (pv 6) (pa_nil)))) (pa_nil))))))))))), ?_⟩
    walk_at "rd"
    refine ⟨q, g, a, b, c, d, x, z, rfl, hq, tp_sq hg, hb, hin, fun H1 e1 => ?_⟩
    have hL1 := hL.ex e1
    have hq1 := sq_ex e1 hq
    have hg1 := tp_ex e1 hg
    walk_at "rd"
    refine ⟨s, q, L, a, b, c, d, rfl, hL1, hq1, hb, fun t H2 e2 ht0 ht => ?_⟩
    have hq2 := sq_ex e2 hq1
    have hg2 := tp_ex e2 hg1
    have e12 := e1.tr e2
    have hpl := grid_len hb
    have hac : a ≤ c := hb.2.1
    have hbd : b ≤ d := hb.2.2.2.2.2.1
    have hsp : (x, z) ∈ gridP a b (c + 1 - a).toNat (d + 1 - b).toNat := (grid_in hac hbd).mpr (in_iff.mp hin)
    walk_at "rd"
    refine ⟨t, .int (L.h x z), rfl, .inr ⟨_, kPt (x, z), g, .inl ht, rfl, hg2, (by rw [valV_hmap, if_pos hsp])⟩, ?_⟩
    by_cases hlv : lv ≤ L.h x z
    · walk_at "rd"
      rename_i t1 ht1
      exact k1 _ t1 (e12.nw ht1) hlv upd_same
    · walk_at "rd"
      refine ⟨t, g, L.h, _, lv, (x, z), rfl, ht, hg2, hsp, by omega, fun d2 H3 ks e3 hd3 hbk hkl hk0 hw => ?_⟩
      have hq3 := sq_ex e3 hq2
      walk_at "rd"
      refine ⟨q, d2, ks, a, b, c, d, rfl, hq3, hbk, hkl, fun H4 e4 hno => ?_, fun H4 r j p e4 hj he hr => ?_⟩
      · have hbk4 := hbk.ex e4
        obtain ⟨kvs, b1, b2, b3, b4⟩ := hbk4
        walk_at "rd"
        refine ⟨d2, kvs, ks, rfl, b1, b2, fun qs bs l hpm hpw hpr hl => ?_⟩
        walk_at "rd"
        rename_i t1 ht1
        have hlt : l ≠ t1 := ne_of_none upd_same ht1
        refine k2 _ t1 l qs (((e12.tr e3).tr e4).nw hl |>.nw ht1) (by omega) ?_ upd_same ⟨bs.map V.ref, by rw [upd_ne hlt]; exact upd_same, past_rg (fun p xs h => tp_new ht1 (tp_new hl h)) (pts_of_paired hpr)⟩ (hpm.nodup_iff.mpr b3) hpw (fun p => ?_) (by rw [hpm.length_eq]; exact hkl)
        · rintro ⟨p, hp, he⟩
          have := hno p ((hw p).mpr ((wet_iff hac hbd).mpr hp))
          rw [edge_iff.mpr he] at this
          cases this
        · rw [hpm.mem_iff, hw, wet_iff hac hbd]
      · walk_at "rd"
        refine ⟨d2, r, ks, j, p, rfl, hbk.ex e4, hkl, hj, hr, fun l us H5 e5 hl => ?_⟩
        walk_at "rd"
        rename_i t1 ht1
        refine k3 _ t1 l ((((e12.tr e3).tr e4).tr e5).nw ht1) (by omega) ⟨p, (wet_iff hac hbd).mp ((hw p).mp (List.mem_of_getElem? hj)), edge_iff.mp he⟩ upd_same

end Kw
set_option Elab.async false
set_option linter.all false
set_option maxRecDepth 100000
set_option maxHeartbeats 2000000
namespace Kw
open PySem PySem.Spec PyProof.Rows L2
local macro_rules | `(tactic| walk_at "in") => `(tactic| repeat (first | assumption | refine in_new (by assumption) ?_ | refine in_ex (by assumption) ?_))
local macro_rules | `(tactic| walk_at "lk") => `(tactic| first | exact lk_laid _ | exact lk_code _ | exact lk_grain _ | exact lk_past _ | exact lk_future _ | exact lk_shelf _ | exact lk_last _)
local macro_rules | `(tactic| walk_at "tp") => `(tactic| repeat (first | assumption | exact tp_up | refine tp_new (by assumption) ?_ | refine tp_lst (by assumption) ?_ | refine tp_ex (by assumption) ?_ | refine tp_mv (by assumption) ?_))
local macro_rules | `(tactic| walk_at "sq") => `(tactic| repeat (first | assumption | exact sq_up | exact sl_up | exact tp_sq (by assumption) | exact Evl.sq_of (by assumption) | refine sq_new (by assumption) ?_ | refine sl_new (by assumption) ?_ | refine sq_lst (by assumption) ?_ | refine sq_ex (by assumption) ?_ | refine sl_ex (by assumption) ?_ | refine sq_mv (by assumption) ?_))
local macro_rules | `(tactic| walk_at "ex") => `(tactic| repeat (first | assumption | exact Ex.rfl' _ | refine Ex.nw ?_ (by assumption) | refine Ex.tr ?_ (by assumption)))
local macro_rules | `(tactic| walk_at "cond") => `(tactic| first | decide | exact Or.inl ⟨by omega, by omega⟩ | exact Or.inr ⟨by omega, by omega⟩ | exact ⟨by omega, by omega⟩ | omega)
local macro_rules | `(tactic| walk_at "rd1") => `(tactic| first
  | refine ⟨_, rfl, ?_⟩
  | refine ⟨_, _, rfl, rfl, ?_⟩
  | refine ⟨_, _, rfl, ?_⟩
  | refine ⟨rfl, ?_⟩
  | refine ⟨_, _, _, rfl, ?_⟩
  | (refine' ⟨_, _, _, _, rfl, rfl, ?h, ?ha, ?q⟩; (case h => walk_at "sq"); (case ha => first | assumption | rfl | exact at_c0 _ _ | exact at_c1 _ _ _ | exact at_c2 _ _ _ _ | (refine at_vals ?_; omega) | exact atI_nat (by assumption)))
  | refine ⟨_, _, _, _, rfl, ?_⟩
  | refine ⟨_, _, _, _, _, rfl, ?_⟩
  | (refine' ⟨_, _, rfl, ?h, ?ha, ?q⟩; (case h => walk_at "sq"); (case ha => first | rfl | exact Nat.le_of_ble_eq_true rfl))
  | refine Or.inr ⟨_, rfl, ?_⟩
  | (refine' ⟨_, _, rfl, Or.inr ?h, ?q⟩; (case h => walk_at "sq"))
  | (refine' ⟨_, _, rfl, Or.inl ?h, ?q⟩; (case h => walk_at "sq"))
  | refine ⟨_, _, _, _, _, rfl, .ty _, .base (.int _), kit_ty kit_ii, ?_⟩
  | refine ⟨_, _, _, _, _, rfl, .ty _, .base (.int _), kit_ty kit_ib, ?_⟩
  | refine ⟨_, _, _, _, _, rfl, .ty _, .base (.str _), kit_ty kit_ss, ?_⟩
  | refine ⟨_, _, _, _, _, rfl, .ty _, .base (.tup (by assumption)), kit_ty kit_tt, ?_⟩
  | with_reducible refine iteT ?_
  | with_reducible refine iteF ?_
  | refine ite_yes (by first | decide | omega) ?_
  | refine ite_no (by first | decide | omega) ?_
  | refine ite_no (fun z => absurd (V.str.inj z) (by assumption)) ?_
  | refine ite_no (fun z => absurd (V.int.inj z) (by omega)) ?_
  | refine ite_yes (congrArg V.int (by omega)) ?_
  | refine ite_nyes (by first | decide | omega) ?_
  | refine ite_nno (by first | decide | omega) ?_
  | (refine' And.intro (Or.inl ⟨rfl, _, ?h⟩) ?q; (case h => first | exact SqL.of (by first | assumption | exact upd_same) | walk_at "sq"))
  | (refine' And.intro ?h ?q; (case h => exact Evl.sz_of (Nat.le_of_ble_eq_true rfl)))
  | refine fun p (hp : (_ : Hp) p = none) => ?_
  | (refine' ⟨_, _, rfl, Or.inr ?h, rfl, rfl, ?q⟩; (case h => walk_at "sq"))
  | (refine' ⟨_, _, rfl, Or.inl ?h, rfl, rfl, ?q⟩; (case h => walk_at "sq"))
  | (refine' ⟨_, _, _, _, _, rfl, ?h, ?c, ?n, ?l, ?q⟩; (case h => walk_at "in"); (case c => assumption); (case n => assumption); (case l => walk_at "lk"))
  | (refine' ⟨_, _, _, rfl, ?h, ?l, ?q⟩; (case h => walk_at "in"); (case l => exact lk_none (by decide) _))
  | (refine' And.intro ?h ?q; (case h => walk_at "cond")))
local macro_rules | `(tactic| walk_at "rd") => `(tactic| repeat walk_at "rd1")
local macro_rules | `(tactic| walk_at "rs") => `(tactic| repeat' (first | walk_at "rd1" | refine ite2d (fun h => ?_) (fun h => ?_) | refine ite2n (fun h => ?_) (fun h => ?_) | refine ite2 (fun h => ?_) (fun h => ?_)))
local macro_rules | `(tactic| walk_at "pu") => `(tactic| repeat (first | assumption | refine purse_new ?_ (by assumption)))
local macro_rules | `(tactic| walk_at "mv") => `(tactic| repeat (first | assumption | exact Mv.rf _ _ | refine Mv.nw ?_ (by assumption) | refine Mv.tr ?_ (by assumption)))

variable {P : Program} {w : World} {K : PySem.W.Frag} {mg : Str → Option Value} {base : Heap} {D : Ad}
/-! ### least_level -/
def spLeast (K : PySem.W.Frag) (D : Ad) : Sp := fun vs H Q _ => ∃ (s q g : Addr) (L : Lnd) (a b c d x z : Int), vs = [.ref s, .ref q, .ref g] ∧ LandAt D H s L ∧ SqT K H q [.int a, .int b, .int c, .int d] ∧ Tp H g [.int x, .int z] ∧ BxOk a b c d ∧ inBx a b c d x z = true ∧
  ∀ (H' : Hp) (lv : Int), Ex H H' → KwM.IsLeast (hF L.h) ⟨a, b, c, d⟩ (x, z) lv → Q (.int lv) H'
theorem sb_lt {n : Nat} (h : n < 1000) : n + 1 < scanBound := Nat.lt_of_lt_of_le (Nat.succ_lt_succ h) (by decide)
theorem h_least_level (F : DefAt K mg "least_level" s_least_level [] []) (T : Txt K w mg D) (G_must_spring : Has P w K mg base 3 "must_spring" (spSpring K) []) (G_heights_in : Has P w K mg base 27 "heights_in" (spHeights K D) []) (G_wet_from : Has P w K mg base 2 "wet_from" (spWet K) []) (G_first_out : Has P w K mg base 2 "first_out" (spFirst K) []) : Has P w K mg base 28 "least_level" (spLeast K D) [] := by
  refine has_of F sc_least_level (fun _ _ _ _ _ _ us hl => match us, hl with | [_, _, _], _ => rfl) ?_ ?_
  · rintro _ _ _ _ ⟨_, _, _, _, _, _, _, _, _, _, rfl, _⟩; rfl
  · rintro f cdv A outer s0 H vs Q E hr ⟨s, q, g, L, a, b, c, d, x, z, rfl, hL, hq, hg, hb, hin, kk⟩
    have hu := hu_of hr
    refine ⟨_, pss_cons (ps_expr (pe_c G_must_spring (hr.mono (by decide)) (by rfl) (pa_cons (pv 1) (pa_cons (pv 2) (pa_nil)))))
      (pss_cons (ps_set (i := 3) sc_least_level.nd rfl (Or.inr rfl) (pe_c G_heights_in (hr.mono (by decide)) (by rfl) (pa_cons (pv 0) (pa_cons (pv 1) (pa_nil)))))
      (pss_cons (ps_set (i := 4) sc_least_level.nd rfl (Or.inl rfl) (pe_callB (cr_sortedSetI rfl) (by rfl) T.f_sorted bt_sorted (pa_cons (pe_lock (pe_scI (own := [("height", 8)]) (g := (gName 8)) rfl sc_least_level.nd (pi_valuesT (pv 3)) (blkOk_by (own := [("height", 8)]) (N := nm_least_level) (sc := defScope s_least_level) (by decide +kernel)) (fun _ _ _ _ _ => pg_name (i := 8) sc_least_level.nd rfl (Or.inl rfl)) (fun _ _ _ _ _ => pts_one (pt_cmpR op_ge (pv 8) (pe_dget hu (pv 3) (pv 2) (fun _ _ => rfl)) (nomark _))) (fun _ _ _ _ _ => pv 8))) (pa_nil))))
      (pss_cons (ps_set (i := 5) sc_least_level.nd rfl (Or.inl rfl) (pe_int))
      (pss_cons (ps_set (i := 6) sc_least_level.nd rfl (Or.inl rfl) (pe_op op_sub (pe_callB call_len_seq (by rfl) T.f_len bt_len (pa_cons (pv 4) (pa_nil))) (pe_int)))
      (pss_cons (ps_while PassesOwn.never (pt_cmpR op_lt (pv 5) (pv 6) (nomark _)) (pss_cons (ps_set (i := 7) sc_least_level.nd rfl (Or.inl rfl) (pe_op op_fdiv (pe_op op_add (pv 5) (pv 6)) (pe_int)))
      (pss_one (ps_if (pt_cmpR op_isN (pe_c G_first_out (hr.mono (by decide)) (by rfl) (pa_cons (pv 1) (pa_cons (pe_c G_wet_from (hr.mono (by decide)) (by rfl) (pa_cons (pv 3) (pa_cons (pv 2) (pa_cons (pe_op op_add (pe_ix ix_list (pv 4) (pv 7) (fun _ _ => rfl)) (pe_int)) (pa_nil))))) (pa_nil)))) (pe_non) (nomark _)) (pss_one (ps_set (i := 5) sc_least_level.nd rfl (Or.inl rfl) (pe_op op_add (pv 7) (pe_int)))) (pss_one (ps_set (i := 6) sc_least_level.nd rfl (Or.inl rfl) (pv 7)))))))
      (pss_one (ps_ret (pe_ix ix_list (pv 4) (pv 5) (fun _ _ => rfl))))))))), ?_⟩
    walk_at "rd"
    refine ⟨q, g, a, b, c, d, x, z, rfl, hq, tp_sq hg, hb, hin, fun H1 e1 => ?_⟩
    have hL1 := hL.ex e1
    have hq1 := sq_ex e1 hq
    have hg1 := tp_ex e1 hg
    walk_at "rd"
    refine ⟨s, q, L, a, b, c, d, rfl, hL1, hq1, hb, fun t H2 e2 ht0 ht => ?_⟩
    have hq2 := sq_ex e2 hq1
    have hg2 := tp_ex e2 hg1
    have e12 := e1.tr e2
    have hpl := grid_len hb
    have hac : a ≤ c := hb.2.1
    have hbd : b ≤ d := hb.2.2.2.2.2.1
    have hgi : ∀ p, p ∈ gridP a b (c + 1 - a).toNat (d + 1 - b).toNat ↔ KwM.inB ⟨a, b, c, d⟩ p := fun p => grid_in hac hbd
    have hwi : ∀ lv p, Wet L.h (gridP a b (c + 1 - a).toNat (d + 1 - b).toNat) lv (x, z) p ↔ KwM.Rch (hF L.h) ⟨a, b, c, d⟩ lv (x, z) p := fun lv p => wet_iff hac hbd
    have hsb : KwM.inB ⟨a, b, c, d⟩ (x, z) := in_iff.mp hin
    generalize gridP a b (c + 1 - a).toNat (d + 1 - b).toNat = ps at *
    have hsp : (x, z) ∈ ps := (hgi _).mpr hsb
    walk_at "rd"
    refine ⟨t, .dT (hmap L.h ps), ht, trivial, fun od => ?_⟩
    have ht1 : (upd H2 t (.frz od (.dT (hmap L.h ps)))) t = some (.frz od (.dT (hmap L.h ps))) := upd_same
    have hg3 : Tp (upd H2 t (.frz od (.dT (hmap L.h ps)))) g [.int x, .int z] := by
      show (upd H2 t _) g = _
      rw [upd_ne (fun z => by rw [z] at hg2; cases ht.symm.trans hg2)]
      exact hg2
    walk_at "rd"
    refine ⟨t, od, hmap L.h ps, rfl, ht1, ?_⟩
    intro dd hd
    have ndt : dd ≠ t := fun z => by rw [z, ht1] at hd; cases hd
    refine lw_vals (d := t) (o := od) (kvs := hmap L.h ps) (fun i H' => Here (Ex (upd H2 t (.frz od (.dT (hmap L.h ps)))) H' ∧ ∃ S n, H' dd = some (SetO w dd S n) ∧ n ≤ i ∧ ∀ k : Int, S k = true ↔ L.h x z ≤ k ∧ ∃ p ∈ ps.take i, L.h p.1 p.2 = k)) (.it ⟨Ex.nw (Ex.rfl' _) hd, _, 0, upd_same, Nat.le_refl _, fun k => ⟨fun z => (Bool.false_ne_true z).elim, fun ⟨_, p, hp, _⟩ => by rw [List.take_zero] at hp; cases hp⟩⟩) (fun i H' _ hh => hh.get.1 _ _ ht1) ?_ ?_
    · intro i k v H' hi hh
      obtain ⟨he, S, n, hS, hn, hSk⟩ := hh.get
      obtain ⟨p, hpi, rfl⟩ : ∃ p, ps[i]? = some p ∧ v = V.int (L.h p.1 p.2) := by
        unfold hmap at hi
        rw [List.getElem?_map] at hi
        cases h2 : ps[i]? with
        | none => rw [h2] at hi; cases hi
        | some p => rw [h2] at hi; cases hi; exact ⟨p, rfl, rfl⟩
      have hil := (List.getElem?_eq_some_iff.mp hpi).1
      walk_at "rd"
      refine ⟨t, .int (L.h x z), rfl, .inr ⟨hmap L.h ps, kPt (x, z), g, .inr ⟨od, he _ _ ht1⟩, rfl, tp_ex he hg3, (by rw [valV_hmap, if_pos hsp])⟩, ?_⟩
      by_cases hlv : L.h x z ≤ L.h p.1 p.2
      · walk_at "rd"
        refine ⟨_, S, n, rfl, hS, sb_lt (by omega), .it ⟨he.mu hd, _, _, upd_same, by split <;> omega, fun k => ?_⟩⟩
        rw [take_snoc hpi, Bool.or_eq_true, decide_eq_true_eq, hSk]
        constructor
        · rintro (⟨h1, p', h2, h3⟩ | rfl)
          · exact ⟨h1, p', List.mem_append_left _ h2, h3⟩
          · exact ⟨hlv, p, List.mem_append_right _ (List.mem_singleton.mpr rfl), rfl⟩
        · rintro ⟨h1, p', h2, h3⟩
          rcases List.mem_append.mp h2 with h2 | h2
          · exact .inl ⟨h1, p', h2, h3⟩
          · rw [List.mem_singleton.mp h2] at h3; exact .inr h3.symm
      · walk_at "rd"
        refine .it ⟨he, S, n, hS, by omega, fun k => ?_⟩
        rw [take_snoc hpi, hSk]
        constructor
        · rintro ⟨h1, p', h2, h3⟩
          exact ⟨h1, p', List.mem_append_left _ h2, h3⟩
        · rintro ⟨h1, p', h2, h3⟩
          rcases List.mem_append.mp h2 with h2 | h2
          · exact ⟨h1, p', h2, h3⟩
          · rw [List.mem_singleton.mp h2] at h3; omega
    · intro H' hh
      obtain ⟨he, S, n, hS, hn, hSk⟩ := hh.get
      rw [List.take_of_length_le (by unfold hmap; rw [List.length_map]; exact Nat.le_refl _)] at hSk
      walk_at "rd"
      refine ⟨he _ _ ht1, ?_⟩
      have e9 : Ex H2 (upd H' t (.dT (hmap L.h ps))) := Ex.unfrz ht he
      have hS9 : (upd H' t (.dT (hmap L.h ps))) dd = some (SetO w dd S n) := by rw [upd_ne ndt]; exact hS
      generalize upd H' t (.dT (hmap L.h ps)) = H9 at *
      have hnl : n ≤ 441 := by unfold hmap at hn; rw [List.length_map] at hn; omega
      walk_at "rd"
      refine ⟨dd, S, n, rfl, hS9, fun ns lp hpw hmem hlen hlp => ?_⟩
      have hv : ∀ y, y ∈ ns ↔ L.h x z ≤ y ∧ ∃ p, KwM.inB ⟨a, b, c, d⟩ p ∧ hF L.h p = y := fun y => by
        rw [hmem, hSk]
        refine and_congr Iff.rfl ⟨fun ⟨p, h1, h2⟩ => ⟨p, (hgi p).mp h1, h2⟩, fun ⟨p, h1, h2⟩ => ⟨p, (hgi p).mpr h1, h2⟩⟩
      have hmono : ∀ i j (hi : i < ns.length) (hj : j < ns.length), i < j → ns[i] < ns[j] := fun i j hi hj hij => (List.pairwise_iff_getElem.mp hpw) i j hi hj hij
      have hs0 : L.h x z ∈ ns := (hv _).mpr ⟨Int.le_refl _, (x, z), hsb, rfl⟩
      have hn0 : 0 < ns.length := List.length_pos_of_mem hs0
      have hout : KwM.Out (hF L.h) ⟨a, b, c, d⟩ (ns[ns.length - 1]'(by omega) + 1) (x, z) := by
        have hle : ∀ y ∈ ns, y ≤ ns[ns.length - 1]'(by omega) := fun y hy => by
          obtain ⟨i, hi, rfl⟩ := List.mem_iff_getElem.mp hy
          by_cases c1 : i = ns.length - 1
          · subst c1; exact Int.le_refl _
          · have := hmono i (ns.length - 1) hi (by omega) (by omega); omega
        refine KwM.out_all (fun p hp => ?_) hsb
        by_cases c1 : L.h x z ≤ hF L.h p
        · have := hle _ ((hv _).mpr ⟨c1, p, hp, rfl⟩); omega
        · have := hle _ hs0; omega
      have hsl : SqL K (upd H9 lp (.lst (ns.map V.int))) lp (ns.map V.int) := sl_up
      have eA : Ex H2 (upd H9 lp (.lst (ns.map V.int))) := e9.nw hlp
      generalize upd H9 lp (.lst (ns.map V.int)) = HA at *
      have hml : (ns.map V.int).length = ns.length := List.length_map ..
      walk_at "rd"
      refine while_x (fun σ H' => Here (∃ (i : Nat) (hi : i < ns.length) (r : Option V), Ex HA H' ∧ KwM.IsLeast (hF L.h) ⟨a, b, c, d⟩ (x, z) ns[i] ∧ σ = [some (.ref s), some (.ref q), some (.ref g), some (.ref t), some (.ref lp), some (.int (i : Nat)), some (.int (i : Nat)), r, none]))
        (fun m σ H' => Here (∃ (i j : Nat) (hj : j < ns.length) (hij : i ≤ j) (r : Option V), m = j - i ∧ Ex HA H' ∧ KwM.Out (hF L.h) ⟨a, b, c, d⟩ (ns[j] + 1) (x, z) ∧ (∀ k (hk : k < i), ¬ KwM.Out (hF L.h) ⟨a, b, c, d⟩ (ns[k]'(by omega) + 1) (x, z)) ∧ σ = [some (.ref s), some (.ref q), some (.ref g), some (.ref t), some (.ref lp), some (.int (i : Nat)), some (.int (j : Nat)), r, none])) ⟨ns.length - 1, .it ⟨0, ns.length - 1, by omega, by omega, none, by omega, Ex.rfl' _, hout, fun k hk => absurd hk (by omega), ?_⟩⟩ ?_ ?_
      · show [some (V.ref s), some (V.ref q), some (V.ref g), some (V.ref t), some (V.ref lp), some (V.int 0), some (V.int (((ns.map V.int).length : Nat) - 1)), none, none] = _
        rw [hml, show ((ns.length : Nat) : Int) - 1 = ((ns.length - 1 : Nat) : Int) by omega]
        rfl
      · intro σ H' hh
        obtain ⟨i, hi, r, he, hil, rfl⟩ := hh.get
        have hsl1 := sl_ex he hsl
        have hat : atI (ns.map V.int) (i : Int) = some (.int ns[i]) := atI_nat (by rw [List.getElem?_map]; simp [hi])
        walk_at "rd"
        exact kk _ _ ((e12.tr eA).tr he) hil
      · intro nx hnx m σ H' hh
        obtain ⟨i, j, hj, hij, r, rfl, he, ho, hno, rfl⟩ := hh.get
        have hsl1 := sl_ex he hsl
        by_cases hlt : i < j
        · obtain ⟨k, hk⟩ : ∃ k : Nat, (k : Int) = ((i : Int) + (j : Int)) / 2 := ⟨(i + j) / 2, by omega⟩
          have hki : i ≤ k := by omega
          have hkj : k < j := by omega
          have hkl : k < ns.length := by omega
          have hat : atI (ns.map V.int) (((i : Int) + (j : Int)) / 2) = some (.int ns[k]) := by rw [← hk]; exact atI_nat (by rw [List.getElem?_map]; simp [hkl])
          walk_at "rd"
          refine ⟨fun σ' H'' => Here (∃ (i' j' : Nat) (hj' : j' < ns.length) (hij' : i' ≤ j') (r : Option V), j' - i' < j - i ∧ Ex HA H'' ∧ KwM.Out (hF L.h) ⟨a, b, c, d⟩ (ns[j'] + 1) (x, z) ∧ (∀ k (hk : k < i'), ¬ KwM.Out (hF L.h) ⟨a, b, c, d⟩ (ns[k]'(by omega) + 1) (x, z)) ∧ σ' = [some (.ref s), some (.ref q), some (.ref g), some (.ref t), some (.ref lp), some (.int (i' : Nat)), some (.int (j' : Nat)), r, none]), ?_, ?_⟩
          · intro σ' H'' hh2
            obtain ⟨i', j', hj', hij', r', hm, he', ho', hno', rfl⟩ := hh2.get
            exact ⟨j' - i', hm, .it ⟨i', j', hj', hij', r', rfl, he', ho', hno', rfl⟩⟩
          · walk_at "rd"
            have eB : Ex H2 H' := eA.tr he
            refine ⟨t, g, L.h, ps, ns[k] + 1, (x, z), rfl, eB _ _ ht, tp_ex eB hg2, hsp, by omega, fun d2 H3 ks e3 hd3 hbk hkl' hk0 hw => ?_⟩
            walk_at "rd"
            refine ⟨q, d2, ks, a, b, c, d, rfl, sq_ex e3 (sq_ex eB hq2), hbk, hkl', fun H4 e4 hno4 => ?_, fun H4 r4 j4 p4 e4 hj4 he4 hr4 => ?_⟩
            · walk_at "rd"
              refine .it ⟨k + 1, j, hj, by omega, some (.int (((i : Int) + (j : Int)) / 2)), by omega, (he.tr e3).tr e4, ho, fun k' hk' => ?_, ?_⟩
              · by_cases c1 : k' = k
                · subst c1
                  rintro ⟨p, hp, hpe⟩
                  have := hno4 p ((hw p).mpr ((hwi _ p).mpr hp))
                  rw [edge_iff.mpr hpe] at this
                  cases this
                · rintro ⟨p, hp, hpe⟩
                  have hlt2 := hmono k' k (by omega) hkl (by omega)
                  have := hno4 p ((hw p).mpr ((hwi _ p).mpr (hp.mono (by omega))))
                  rw [edge_iff.mpr hpe] at this
                  cases this
              · show [some (V.ref s), some (V.ref q), some (V.ref g), some (V.ref t), some (V.ref lp), some (V.int (((i : Int) + (j : Int)) / 2 + 1)), some (V.int (j : Nat)), some (.int (((i : Int) + (j : Int)) / 2)), none] = _
                rw [← hk]
                rfl
            · walk_at "rd"
              refine .it ⟨i, k, hkl, hki, some (.int (((i : Int) + (j : Int)) / 2)), by omega, (he.tr e3).tr e4, ⟨p4, (hwi _ p4).mp ((hw p4).mp (List.mem_of_getElem? hj4)), edge_iff.mp he4⟩, hno, ?_⟩
              show [some (V.ref s), some (V.ref q), some (V.ref g), some (V.ref t), some (V.ref lp), some (V.int (i : Nat)), some (V.int (((i : Int) + (j : Int)) / 2)), some (.int (((i : Int) + (j : Int)) / 2)), none] = _
              rw [← hk]
        · walk_at "rd"
          obtain rfl : i = j := by omega
          exact hnx _ _ (.it ⟨i, hj, r, he, KwM.IsLeast.of_search hsb hv hmono hj ho hno, rfl⟩)

end Kw
set_option Elab.async false
set_option linter.all false
set_option maxRecDepth 100000
set_option maxHeartbeats 2000000
namespace Kw
open PySem PySem.Spec PyProof.Rows L2
local macro_rules | `(tactic| walk_at "in") => `(tactic| repeat (first | assumption | refine in_new (by assumption) ?_ | refine in_ex (by assumption) ?_))
local macro_rules | `(tactic| walk_at "lk") => `(tactic| first | exact lk_laid _ | exact lk_code _ | exact lk_grain _ | exact lk_past _ | exact lk_future _ | exact lk_shelf _ | exact lk_last _)
local macro_rules | `(tactic| walk_at "tp") => `(tactic| repeat (first | assumption | exact tp_up | refine tp_new (by assumption) ?_ | refine tp_lst (by assumption) ?_ | refine tp_ex (by assumption) ?_ | refine tp_mv (by assumption) ?_))
local macro_rules | `(tactic| walk_at "sq") => `(tactic| repeat (first | assumption | exact sq_up | exact sl_up | exact tp_sq (by assumption) | exact Evl.sq_of (by assumption) | refine sq_new (by assumption) ?_ | refine sl_new (by assumption) ?_ | refine sq_lst (by assumption) ?_ | refine sq_ex (by assumption) ?_ | refine sl_ex (by assumption) ?_ | refine sq_mv (by assumption) ?_))
local macro_rules | `(tactic| walk_at "ex") => `(tactic| repeat (first | assumption | exact Ex.rfl' _ | refine Ex.nw ?_ (by assumption) | refine Ex.tr ?_ (by assumption)))
local macro_rules | `(tactic| walk_at "cond") => `(tactic| first | decide | exact Or.inl ⟨by omega, by omega⟩ | exact Or.inr ⟨by omega, by omega⟩ | exact ⟨by omega, by omega⟩ | omega)
local macro_rules | `(tactic| walk_at "rd1") => `(tactic| first
  | refine ⟨_, rfl, ?_⟩
  | refine ⟨_, _, rfl, rfl, ?_⟩
  | refine ⟨_, _, rfl, ?_⟩
  | refine ⟨rfl, ?_⟩
  | refine ⟨_, _, _, rfl, ?_⟩
  | (refine' ⟨_, _, _, _, rfl, rfl, ?h, ?ha, ?q⟩; (case h => walk_at "sq"); (case ha => first | assumption | rfl | exact at_c0 _ _ | exact at_c1 _ _ _ | exact at_c2 _ _ _ _ | (refine at_vals ?_; omega) | exact atI_nat (by assumption)))
  | refine ⟨_, _, _, _, rfl, ?_⟩
  | refine ⟨_, _, _, _, _, rfl, ?_⟩
  | (refine' ⟨_, _, rfl, ?h, ?ha, ?q⟩; (case h => walk_at "sq"); (case ha => first | rfl | exact Nat.le_of_ble_eq_true rfl))
  | refine Or.inr ⟨_, rfl, ?_⟩
  | (refine' ⟨_, _, rfl, Or.inr ?h, ?q⟩; (case h => walk_at "sq"))
  | (refine' ⟨_, _, rfl, Or.inl ?h, ?q⟩; (case h => walk_at "sq"))
  | refine ⟨_, _, _, _, _, rfl, .ty _, .base (.int _), kit_ty kit_ii, ?_⟩
  | refine ⟨_, _, _, _, _, rfl, .ty _, .base (.int _), kit_ty kit_ib, ?_⟩
  | refine ⟨_, _, _, _, _, rfl, .ty _, .base (.str _), kit_ty kit_ss, ?_⟩
  | refine ⟨_, _, _, _, _, rfl, .ty _, .base (.tup (by assumption)), kit_ty kit_tt, ?_⟩
  | with_reducible refine iteT ?_
  | with_reducible refine iteF ?_
  | refine ite_yes (by first | decide | omega) ?_
  | refine ite_no (by first | decide | omega) ?_
  | refine ite_no (fun z => absurd (V.str.inj z) (by assumption)) ?_
  | refine ite_no (fun z => absurd (V.int.inj z) (by omega)) ?_
  | refine ite_yes (congrArg V.int (by omega)) ?_
  | refine ite_nyes (by first | decide | omega) ?_
  | refine ite_nno (by first | decide | omega) ?_
  | (refine' And.intro (Or.inl ⟨rfl, _, ?h⟩) ?q; (case h => first | exact SqL.of (by first | assumption | exact upd_same) | walk_at "sq"))
  | (refine' And.intro ?h ?q; (case h => exact Evl.sz_of (Nat.le_of_ble_eq_true rfl)))
  | refine fun p (hp : (_ : Hp) p = none) => ?_
  | (refine' ⟨_, _, rfl, Or.inr ?h, rfl, rfl, ?q⟩; (case h => walk_at "sq"))
  | (refine' ⟨_, _, rfl, Or.inl ?h, rfl, rfl, ?q⟩; (case h => walk_at "sq"))
  | (refine' ⟨_, _, _, _, _, rfl, ?h, ?c, ?n, ?l, ?q⟩; (case h => walk_at "in"); (case c => assumption); (case n => assumption); (case l => walk_at "lk"))
  | (refine' ⟨_, _, _, rfl, ?h, ?l, ?q⟩; (case h => walk_at "in"); (case l => exact lk_none (by decide) _))
  | (refine' And.intro ?h ?q; (case h => walk_at "cond")))
local macro_rules | `(tactic| walk_at "rd") => `(tactic| repeat walk_at "rd1")
local macro_rules | `(tactic| walk_at "rs") => `(tactic| repeat' (first | walk_at "rd1" | refine ite2d (fun h => ?_) (fun h => ?_) | refine ite2n (fun h => ?_) (fun h => ?_) | refine ite2 (fun h => ?_) (fun h => ?_)))
local macro_rules | `(tactic| walk_at "pu") => `(tactic| repeat (first | assumption | refine purse_new ?_ (by assumption)))
local macro_rules | `(tactic| walk_at "mv") => `(tactic| repeat (first | assumption | exact Mv.rf _ _ | refine Mv.nw ?_ (by assumption) | refine Mv.tr ?_ (by assumption)))

variable {P : Program} {w : World} {K : PySem.W.Frag} {mg : Str → Option Value} {base : Heap} {D : Ad}
/-! ### plain: the levels in their order, lists of points, the sight and its mirror -/
theorem rgC3 {b l st : Int} (h1 : -1000000000 ≤ b) (h2 : b ≤ l) (h3 : l ≤ 1000000000) (h4 : 0 < st) (h5 : st < 1073741824) (h6 : l - b ≤ 5 * st + 4) : ∃ n : Nat, RgC (b + 1) l st n ∧ n ≤ 8 ∧ (∀ i : Nat, i < n → b + 1 + (i : Int) * st < l) := by
  have hd : 0 ≤ (l - (b + 1) - 1) / st ∨ ¬ b + 1 < l := by
    by_cases c : b + 1 < l
    · exact .inl (Int.ediv_nonneg (by omega) (by omega))
    · exact .inr c
  have hd2 : (l - (b + 1) - 1) / st < 8 := Int.ediv_lt_of_lt_mul h4 (by omega)
  have hd3 : (l - (b + 1) - 1) / st * st ≤ l - (b + 1) - 1 := Int.ediv_mul_le _ (by omega)
  have hs : Builtin.Range.rangeSize (b + 1) l st = if b + 1 < l then (l - (b + 1) - 1) / st + 1 else 0 := by
    unfold Builtin.Range.rangeSize
    rw [if_pos (show st > 0 from h4)]
  generalize (l - (b + 1) - 1) / st = k at *
  refine ⟨(if b + 1 < l then k + 1 else 0).toNat, ⟨by omega, by omega, ?_, ?_⟩, ?_, ?_⟩
  · unfold Builtin.Range.small
    rw [hs]
    simp only [Builtin.Range.rangeFitsLong, Bool.and_eq_true, Bool.or_eq_true, decide_eq_true_eq, beq_iff_eq, show st > 0 from h4, if_true]
    split <;> omega
  · rw [hs]
    split <;> omega
  · split <;> omega
  · intro i hi
    by_cases c : b + 1 < l
    · rw [if_pos c] at hi
      have hik : (i : Int) ≤ k := by omega
      have := Int.mul_le_mul_of_nonneg_right hik (show 0 ≤ st by omega)
      omega
    · rw [if_neg c] at hi
      omega
/-- the levels that are asked -/
def lvls (b l st : Int) (n : Nat) : List Int := ((List.range n).map fun i => b + 1 + ((i : Nat) : Int) * st) ++ (if l > b then [l] else [])
theorem lvls_mem {b l st : Int} {n : Nat} (h4 : 0 < st) (hn : ∀ i : Nat, i < n → b + 1 + (i : Int) * st < l) {y : Int} (hy : y ∈ lvls b l st n) : b < y ∧ y ≤ l := by
  unfold lvls at hy
  rcases List.mem_append.mp hy with h | h
  · obtain ⟨i, hi, rfl⟩ := List.mem_map.mp h
    have := hn i (List.mem_range.mp hi)
    have : 0 ≤ (i : Int) * st := Int.mul_nonneg (by omega) (by omega)
    omega
  · by_cases c : l > b
    · rw [if_pos c] at h; rw [List.mem_singleton.mp h]; omega
    · rw [if_neg c] at h; cases h
theorem lvls_rise {b l st : Int} {n : Nat} (h4 : 0 < st) (hn : ∀ i : Nat, i < n → b + 1 + (i : Int) * st < l) : (lvls b l st n).Pairwise (· ≤ ·) := by
  unfold lvls
  rw [List.pairwise_append]
  refine ⟨?_, ?_, ?_⟩
  · rw [List.pairwise_map]
    refine List.pairwise_lt_range.imp fun {i j} h => ?_
    have := Int.mul_le_mul_of_nonneg_right (show (i : Int) ≤ (j : Int) by omega) (show 0 ≤ st by omega)
    omega
  · split
    · exact List.pairwise_singleton _ _
    · exact .nil
  · intro x hx y hy
    obtain ⟨i, hi, rfl⟩ := List.mem_map.mp hx
    have := hn i (List.mem_range.mp hi)
    by_cases c : l > b
    · rw [if_pos c] at hy; rw [List.mem_singleton.mp hy]; omega
    · rw [if_neg c] at hy; cases hy
theorem lvls_last {b l st : Int} {n : Nat} (c : b < l) : (lvls b l st n)[(lvls b l st n).length - 1]? = some l := by
  unfold lvls
  rw [if_pos (show l > b from c)]
  simp
theorem lvls_none {b l st : Int} {n : Nat} (c : ¬ b < l) (hn : ∀ i : Nat, i < n → b + 1 + (i : Int) * st < l) (h4 : 0 < st) : lvls b l st n = [] := by
  unfold lvls
  rw [if_neg (show ¬ l > b from c), List.append_nil]
  cases n with
  | zero => rfl
  | succ n =>
    have := hn 0 (by omega)
    omega
theorem lvls_len {b l st : Int} {n : Nat} : (lvls b l st n).length ≤ n + 1 := by
  unfold lvls
  rw [List.length_append, List.length_map, List.length_range]
  split <;> simp
theorem lvls_V {b l st : Int} {n : Nat} : (lvls b l st n).map V.int = rgC (b + 1) st n ++ (if l > b then [V.int l] else []) := by
  unfold lvls rgC
  rw [List.map_append, List.map_map]
  congr 1
  split <;> rfl
theorem leP_anti {p q : Int × Int} (a : LeP p q) (b : LeP q p) : p = q := by
  unfold LeP at a b
  exact Prod.ext (by omega) (by omega)
theorem pts_uniq {l m : List (Int × Int)} (dl : l.Nodup) (dm : m.Nodup) (sl : l.Pairwise LeP) (sm : m.Pairwise LeP) (h : ∀ p, p ∈ l ↔ p ∈ m) : l = m :=
  List.Perm.eq_of_pairwise (fun _ _ _ _ a b => leP_anti a b) sl sm ((List.perm_ext_iff_of_nodup dl dm).mpr h)
/-! the sight -/
/-- the room at a turn -/
def lft (h : Int → Int → Int) (x1 z1 α β far e t : Int) : Int := (h x1 z1 + e - h (x1 + t * α) (z1 + t * β)) * far + t * (h (x1 + far * α) (z1 + far * β) + e - (h x1 z1 + e))
/-- the first turn that hides -/
def HidAt (g : Int → Int) (far t : Int) : Prop := 1 ≤ t ∧ t < far ∧ g t < 0 ∧ ∀ u, 1 ≤ u → u < t → 0 ≤ g u
/-- the least room -/
def RoomAt (g : Int → Int) (far m : Int) : Prop := (∃ t, 1 ≤ t ∧ t < far ∧ g t = m) ∧ ∀ t, 1 ≤ t → t < far → m ≤ g t ∧ 0 ≤ g t
theorem lft_back (h : Int → Int → Int) (x1 z1 α β far e t : Int) : lft h (x1 + far * α) (z1 + far * β) (-α) (-β) far e t = lft h x1 z1 α β far e (far - t) := by
  unfold lft
  have e1 : x1 + far * α + t * -α = x1 + (far - t) * α := by rw [Int.sub_mul, Int.mul_neg]; omega
  have e2 : z1 + far * β + t * -β = z1 + (far - t) * β := by rw [Int.sub_mul, Int.mul_neg]; omega
  have e3 : x1 + far * α + far * -α = x1 := by rw [Int.mul_neg]; omega
  have e4 : z1 + far * β + far * -β = z1 := by rw [Int.mul_neg]; omega
  rw [e1, e2, e3, e4]
  generalize h x1 z1 = a
  generalize h (x1 + far * α) (z1 + far * β) = b
  generalize h (x1 + (far - t) * α) (z1 + (far - t) * β) = c
  simp only [Int.sub_mul, Int.add_mul, Int.mul_sub, Int.mul_add]
  have c1 := Int.mul_comm far a
  have c2 := Int.mul_comm far b
  have c3 := Int.mul_comm far e
  omega
theorem lft_eye (h : Int → Int → Int) (x1 z1 α β far e t : Int) : lft h x1 z1 α β far (e + 5) t = lft h x1 z1 α β far e t + 5 * far := by
  unfold lft
  generalize h x1 z1 = a
  generalize h (x1 + far * α) (z1 + far * β) = b
  generalize h (x1 + t * α) (z1 + t * β) = c
  have e1 : b + (e + 5) - (a + (e + 5)) = b + e - (a + e) := by omega
  have e2 : a + (e + 5) - c = (a + e - c) + 5 := by omega
  rw [e1, e2, Int.add_mul]
  omega
theorem RoomAt.uniq {g g' : Int → Int} {far m m' : Int} (a : RoomAt g far m) (b : RoomAt g' far m') (hg : ∀ t, 1 ≤ t → t < far → g' t = g t) : m' = m := by
  obtain ⟨⟨t, h1, h2, h3⟩, a2⟩ := a
  obtain ⟨⟨u, k1, k2, k3⟩, b2⟩ := b
  have q1 := (b2 t h1 h2).1
  have q2 := (a2 u k1 k2).1
  rw [hg t h1 h2] at q1
  rw [hg u k1 k2] at k3
  omega
theorem RoomAt.back {g g' : Int → Int} {far m : Int} (a : RoomAt g far m) (hg : ∀ t, g' t = g (far - t)) : RoomAt g' far m := by
  obtain ⟨⟨t, h1, h2, h3⟩, a2⟩ := a
  refine ⟨⟨far - t, by omega, by omega, by rw [hg, show far - (far - t) = t by omega]; exact h3⟩, fun u k1 k2 => ?_⟩
  rw [hg]
  exact a2 (far - u) (by omega) (by omega)
theorem RoomAt.eye {g g' : Int → Int} {far m : Int} (a : RoomAt g far m) (hf : 0 < far) (hg : ∀ t, g' t = g t + 5 * far) : RoomAt g' far (m + 5 * far) := by
  obtain ⟨⟨t, h1, h2, h3⟩, a2⟩ := a
  refine ⟨⟨t, h1, h2, by rw [hg, h3]⟩, fun u k1 k2 => ?_⟩
  rw [hg]
  have := a2 u k1 k2
  omega
theorem HidAt.no_room {g : Int → Int} {far t m : Int} (a : HidAt g far t) (b : RoomAt g far m) : False := by
  have := (b.2 t a.1 a.2.1).2
  have := a.2.2.1
  omega
theorem HidAt.back_no {g g' : Int → Int} {far t m : Int} (a : HidAt g far t) (b : RoomAt g' far m) (hg : ∀ t, g' t = g (far - t)) : False := by
  have := (b.2 (far - t) (by have := a.2.1; omega) (by have := a.1; omega)).2
  rw [hg, show far - (far - t) = t by omega] at this
  have := a.2.2.1
  omega
theorem HidAt.eye_no {g g' : Int → Int} {far t m : Int} (a : HidAt g' far t) (b : RoomAt g far m) (hf : 0 < far) (hg : ∀ t, g' t = g t + 5 * far) : False := by
  have h1 := (b.2 t a.1 a.2.1).2
  have := a.2.2.1
  rw [hg] at this
  omega
theorem HidAt.eye_le {g g' : Int → Int} {far t t' : Int} (a : HidAt g far t) (b : HidAt g' far t') (hf : 0 < far) (hg : ∀ t, g' t = g t + 5 * far) : t ≤ t' := by
  refine Int.not_lt.mp fun c => ?_
  have h1 := a.2.2.2 t' b.1 c
  have := b.2.2.1
  rw [hg] at this
  omega
theorem gcd_eye {m far : Int} : Int.gcd (m + 5 * far) far = Int.gcd m far := by
  rw [Int.gcd_add_mul_right_left]
theorem room_eye {m far : Int} (hf : 0 < far) : (m + 5 * far) / (Int.gcd m far : Int) = m / (Int.gcd m far : Int) + 5 * (far / (Int.gcd m far : Int)) := by
  have hd : ((Int.gcd m far : Nat) : Int) ∣ far := Int.gcd_dvd_right ..
  rw [Int.add_ediv_of_dvd_right (Int.dvd_trans hd (Int.dvd_mul_left 5 far)), Int.mul_ediv_assoc _ hd]

end Kw
set_option Elab.async false
set_option linter.all false
set_option maxRecDepth 100000
set_option maxHeartbeats 2000000
namespace Kw
open PySem PySem.Spec PyProof.Rows L2
local macro_rules | `(tactic| walk_at "in") => `(tactic| repeat (first | assumption | refine in_new (by assumption) ?_ | refine in_ex (by assumption) ?_))
local macro_rules | `(tactic| walk_at "lk") => `(tactic| first | exact lk_laid _ | exact lk_code _ | exact lk_grain _ | exact lk_past _ | exact lk_future _ | exact lk_shelf _ | exact lk_last _)
local macro_rules | `(tactic| walk_at "tp") => `(tactic| repeat (first | assumption | exact tp_up | refine tp_new (by assumption) ?_ | refine tp_lst (by assumption) ?_ | refine tp_ex (by assumption) ?_ | refine tp_mv (by assumption) ?_))
local macro_rules | `(tactic| walk_at "sq") => `(tactic| repeat (first | assumption | exact sq_up | exact sl_up | exact tp_sq (by assumption) | exact Evl.sq_of (by assumption) | refine sq_new (by assumption) ?_ | refine sl_new (by assumption) ?_ | refine sq_lst (by assumption) ?_ | refine sq_ex (by assumption) ?_ | refine sl_ex (by assumption) ?_ | refine sq_mv (by assumption) ?_))
local macro_rules | `(tactic| walk_at "ex") => `(tactic| repeat (first | assumption | exact Ex.rfl' _ | refine Ex.nw ?_ (by assumption) | refine Ex.tr ?_ (by assumption)))
local macro_rules | `(tactic| walk_at "cond") => `(tactic| first | decide | exact Or.inl ⟨by omega, by omega⟩ | exact Or.inr ⟨by omega, by omega⟩ | exact ⟨by omega, by omega⟩ | omega)
local macro_rules | `(tactic| walk_at "rd1") => `(tactic| first
  | refine ⟨_, rfl, ?_⟩
  | refine ⟨_, _, rfl, rfl, ?_⟩
  | refine ⟨_, _, rfl, ?_⟩
  | refine ⟨rfl, ?_⟩
  | refine ⟨_, _, _, rfl, ?_⟩
  | (refine' ⟨_, _, _, _, rfl, rfl, ?h, ?ha, ?q⟩; (case h => walk_at "sq"); (case ha => first | assumption | rfl | exact at_c0 _ _ | exact at_c1 _ _ _ | exact at_c2 _ _ _ _ | (refine at_vals ?_; omega) | exact atI_nat (by assumption)))
  | refine ⟨_, _, _, _, rfl, ?_⟩
  | refine ⟨_, _, _, _, _, rfl, ?_⟩
  | (refine' ⟨_, _, rfl, ?h, ?ha, ?q⟩; (case h => walk_at "sq"); (case ha => first | rfl | exact Nat.le_of_ble_eq_true rfl))
  | refine Or.inr ⟨_, rfl, ?_⟩
  | (refine' ⟨_, _, rfl, Or.inr ?h, ?q⟩; (case h => walk_at "sq"))
  | (refine' ⟨_, _, rfl, Or.inl ?h, ?q⟩; (case h => walk_at "sq"))
  | refine ⟨_, _, _, _, _, rfl, .ty _, .base (.int _), kit_ty kit_ii, ?_⟩
  | refine ⟨_, _, _, _, _, rfl, .ty _, .base (.int _), kit_ty kit_ib, ?_⟩
  | refine ⟨_, _, _, _, _, rfl, .ty _, .base (.str _), kit_ty kit_ss, ?_⟩
  | refine ⟨_, _, _, _, _, rfl, .ty _, .base (.tup (by assumption)), kit_ty kit_tt, ?_⟩
  | with_reducible refine iteT ?_
  | with_reducible refine iteF ?_
  | refine ite_yes (by first | decide | omega) ?_
  | refine ite_no (by first | decide | omega) ?_
  | refine ite_no (fun z => absurd (V.str.inj z) (by assumption)) ?_
  | refine ite_no (fun z => absurd (V.int.inj z) (by omega)) ?_
  | refine ite_yes (congrArg V.int (by omega)) ?_
  | refine ite_nyes (by first | decide | omega) ?_
  | refine ite_nno (by first | decide | omega) ?_
  | (refine' And.intro (Or.inl ⟨rfl, _, ?h⟩) ?q; (case h => first | exact SqL.of (by first | assumption | exact upd_same) | walk_at "sq"))
  | (refine' And.intro ?h ?q; (case h => exact Evl.sz_of (Nat.le_of_ble_eq_true rfl)))
  | refine fun p (hp : (_ : Hp) p = none) => ?_
  | (refine' ⟨_, _, rfl, Or.inr ?h, rfl, rfl, ?q⟩; (case h => walk_at "sq"))
  | (refine' ⟨_, _, rfl, Or.inl ?h, rfl, rfl, ?q⟩; (case h => walk_at "sq"))
  | (refine' ⟨_, _, _, _, _, rfl, ?h, ?c, ?n, ?l, ?q⟩; (case h => walk_at "in"); (case c => assumption); (case n => assumption); (case l => walk_at "lk"))
  | (refine' ⟨_, _, _, rfl, ?h, ?l, ?q⟩; (case h => walk_at "in"); (case l => exact lk_none (by decide) _))
  | (refine' And.intro ?h ?q; (case h => walk_at "cond")))
local macro_rules | `(tactic| walk_at "rd") => `(tactic| repeat walk_at "rd1")
local macro_rules | `(tactic| walk_at "rs") => `(tactic| repeat' (first | walk_at "rd1" | refine ite2d (fun h => ?_) (fun h => ?_) | refine ite2n (fun h => ?_) (fun h => ?_) | refine ite2 (fun h => ?_) (fun h => ?_)))
local macro_rules | `(tactic| walk_at "pu") => `(tactic| repeat (first | assumption | refine purse_new ?_ (by assumption)))
local macro_rules | `(tactic| walk_at "mv") => `(tactic| repeat (first | assumption | exact Mv.rf _ _ | refine Mv.nw ?_ (by assumption) | refine Mv.tr ?_ (by assumption)))

variable {P : Program} {w : World} {K : PySem.W.Frag} {mg : Str → Option Value} {base : Heap} {D : Ad}
/-! ### sees -/
theorem near_mul {far t α : Int} (hf : 0 < far) : nearV (t * (far * α)) far = t * α := by
  unfold nearV
  have e : far - 2 * (t * (far * α)) = far + (2 * far) * (-(t * α)) := by
    rw [Int.mul_neg, Int.mul_assoc, Int.mul_left_comm far t α, ← Int.sub_eq_add_neg]
  rw [e, Int.add_mul_ediv_left _ _ (by omega), Int.ediv_eq_zero_of_lt (by omega) (by omega)]
  omega
def DirOk (α β : Int) : Prop := -1 ≤ α ∧ α ≤ 1 ∧ -1 ≤ β ∧ β ≤ 1 ∧ (α ≠ 0 ∨ β ≠ 0)
def spSees (K : PySem.W.Frag) (D : Ad) : Sp := fun vs H Q _ => ∃ (s p o : Addr) (L : Lnd) (x1 z1 α β far e : Int), vs = [.ref s, .ref p, .ref o, .int e] ∧ LandAt D H s L ∧ Tp H p [.int x1, .int z1] ∧ Tp H o [.int (x1 + far * α), .int (z1 + far * β)] ∧ DirOk α β ∧ 2 ≤ far ∧ far ≤ 20 ∧ -100 ≤ x1 ∧ x1 ≤ 100 ∧ -100 ≤ z1 ∧ z1 ≤ 100 ∧ 0 ≤ e ∧ e ≤ 900 ∧
  (∀ (H' : Hp) (t : Int) (r r2 : Addr), Ex H H' → HidAt (lft L.h x1 z1 α β far e) far t → Tp H' r [.str "hidden", .ref r2] → Tp H' r2 [.int (x1 + t * α), .int (z1 + t * β)] → Q (.ref r) H') ∧
  (∀ (H' : Hp) (m : Int) (r r2 : Addr), Ex H H' → RoomAt (lft L.h x1 z1 α β far e) far m → Tp H' r [.str "sees", .ref r2] → Tp H' r2 [.int (m / (Int.gcd m far : Int)), .int (far / (Int.gcd m far : Int))] → Q (.ref r) H')
theorem b_sees (T : Txt K w mg D) (G_must_point : Has P w K mg base 1 "must_point" spPt0 []) (G_height : HasM P w K mg base 26 D.C "height" (spHAt D)) (G_nearest : Has P w K mg base 1 "nearest" spNear []) (G_lowest : Has P w K mg base 1 "lowest" spLowest []) : BodyOk P w K mg base "sees" s_sees nm_sees 27 (spSees K D) := by
  rintro f cdv A outer s0 H vs Q E hr ⟨s, p, o, L, x1, z1, α, β, far, e, rfl, hL, hp, ho, hdir, hf2, hf20, hx1, hx2, hz1, hz2, he0, he1, k1, k2⟩
  have hu := hu_of hr
  refine ⟨_, pss_cons (ps_expr (pe_c G_must_point (hr.mono (by decide)) (by rfl) (pa_cons (pe_ix ix_tup (pv 1) (pe_int) (fun _ _ => rfl)) (pa_cons (pe_ix ix_tup (pv 1) (pe_int) (fun _ _ => rfl)) (pa_nil)))))
      (pss_cons (ps_expr (pe_c G_must_point (hr.mono (by decide)) (by rfl) (pa_cons (pe_ix ix_tup (pv 2) (pe_int) (fun _ _ => rfl)) (pa_cons (pe_ix ix_tup (pv 2) (pe_int) (fun _ _ => rfl)) (pa_nil)))))
      (pss_cons (ps_par (i := 4) (j := 5) (by rfl) sc_sees.nd rfl rfl (by decide) rfl rfl (pa_cons (pe_op op_sub (pe_ix ix_tup (pv 2) (pe_int) (fun _ _ => rfl)) (pe_ix ix_tup (pv 1) (pe_int) (fun _ _ => rfl))) (pa_cons (pe_op op_sub (pe_ix ix_tup (pv 2) (pe_int) (fun _ _ => rfl)) (pe_ix ix_tup (pv 1) (pe_int) (fun _ _ => rfl))) pa_nil)) (by rfl))
      (pss_cons (ps_set (i := 6) sc_sees.nd rfl (Or.inl rfl) (pe_callB (call_max2 rfl) (by rfl) T.f_max bt_max (pa_cons (pe_callB call_abs (by rfl) T.f_abs bt_abs (pa_cons (pv 4) (pa_nil))) (pa_cons (pe_callB call_abs (by rfl) T.f_abs bt_abs (pa_cons (pv 5) (pa_nil))) (pa_nil)))))
      (pss_cons (ps_if (pt_cmpR op_gt (pv 6) (pe_gi T.FARTHEST (by rfl)) (nomark _)) (pss_never) (pss_nil))
      (pss_cons (ps_if (pt_not (pt_chain op_le op_le (pe_int) (pv 3) (pe_gi T.MOST_EYE (by rfl)))) (pss_never) (pss_nil))
      (pss_cons (ps_set (i := 7) sc_sees.nd rfl (Or.inl rfl) (pe_op op_add (pe_m G_height (hr.mono (by decide)) T.cl (pv 0) (pa_cons (pe_ix ix_tup (pv 1) (pe_int) (fun _ _ => rfl)) (pa_cons (pe_ix ix_tup (pv 1) (pe_int) (fun _ _ => rfl)) (pa_nil)))) (pv 3)))
      (pss_cons (ps_set (i := 8) sc_sees.nd rfl (Or.inl rfl) (pe_op op_sub (pe_op op_add (pe_m G_height (hr.mono (by decide)) T.cl (pv 0) (pa_cons (pe_ix ix_tup (pv 2) (pe_int) (fun _ _ => rfl)) (pa_cons (pe_ix ix_tup (pv 2) (pe_int) (fun _ _ => rfl)) (pa_nil)))) (pv 3)) (pv 7)))
      (pss_cons (ps_set (i := 9) sc_sees.nd rfl (Or.inl rfl) (pe_non))
      (pss_cons (ps_for PassesOwn.never rfl (pi_range2 (by rfl) T.f_range (pa_cons (pe_int) (pa_cons (pv 6) (pa_nil)))) (pg_name (i := 10) sc_sees.nd rfl (Or.inl rfl)) (pss_cons (ps_set (i := 11) sc_sees.nd rfl (Or.inl rfl) (pe_op op_add (pe_ix ix_tup (pv 1) (pe_int) (fun _ _ => rfl)) (pe_c G_nearest (hr.mono (by decide)) (by rfl) (pa_cons (pe_op op_mul (pv 10) (pv 4)) (pa_cons (pv 6) (pa_nil))))))
      (pss_cons (ps_set (i := 12) sc_sees.nd rfl (Or.inl rfl) (pe_op op_add (pe_ix ix_tup (pv 1) (pe_int) (fun _ _ => rfl)) (pe_c G_nearest (hr.mono (by decide)) (by rfl) (pa_cons (pe_op op_mul (pv 10) (pv 5)) (pa_cons (pv 6) (pa_nil))))))
      (pss_cons (ps_set (i := 13) sc_sees.nd rfl (Or.inl rfl) (pe_op op_add (pe_op op_mul (pe_op op_sub (pv 7) (pe_m G_height (hr.mono (by decide)) T.cl (pv 0) (pa_cons (pv 11) (pa_cons (pv 12) (pa_nil))))) (pv 6)) (pe_op op_mul (pv 10) (pv 8))))
      (pss_cons (ps_if (pt_cmpR op_lt (pv 13) (pe_int) (nomark _)) (pss_one (ps_ret (pe_tup (pa_cons (pe_str) (pa_cons (pe_tup (pa_cons (pv 11) (pa_cons (pv 12) (pa_nil)))) (pa_nil)))))) (pss_nil))
      (pss_one (ps_if (PW.pt (pw_or (pt_cmpR op_isN (pv 9) (pe_non) (nomark _)) (pw_or1 (pt_cmpR op_lt (pv 13) (pv 9) (nomark _))))) (pss_one (ps_set (i := 9) sc_sees.nd rfl (Or.inl rfl) (pv 13))) (pss_nil))))))))
      (pss_cons (ps_if (pt_cmpR op_isN (pv 9) (pe_non) (nomark _)) (pss_one (ps_ret (pe_tup (pa_cons (pe_str) (pa_cons (pe_non) (pa_nil)))))) (pss_nil))
      (pss_one (ps_ret (pe_tup (pa_cons (pe_str) (pa_cons (pe_c G_lowest (hr.mono (by decide)) (by rfl) (pa_cons (pv 9) (pa_cons (pv 6) (pa_nil)))) (pa_nil)))))))))))))))), ?_⟩
  obtain ⟨hd1, hd2, hd3, hd4, hd5⟩ := hdir
  have hfa : -far ≤ far * α ∧ far * α ≤ far ∧ (α ≠ 0 → far * α = far ∨ far * α = -far) := by
    rcases (show α = -1 ∨ α = 0 ∨ α = 1 by omega) with rfl | rfl | rfl <;> omega
  have hfb : -far ≤ far * β ∧ far * β ≤ far ∧ (β ≠ 0 → far * β = far ∨ far * β = -far) := by
    rcases (show β = -1 ∨ β = 0 ∨ β = 1 by omega) with rfl | rfl | rfl <;> omega
  have hins := hL.ins
  walk_at "rd"
  have e1 : x1 + far * α - x1 = far * α := by omega
  have e2 : z1 + far * β - z1 = far * β := by omega
  have hfar : (if (if far * β < 0 then -(far * β) else far * β) > (if far * α < 0 then -(far * α) else far * α) then (if far * β < 0 then -(far * β) else far * β) else (if far * α < 0 then -(far * α) else far * α)) = far := by
    generalize far * α = u at *
    generalize far * β = v at *
    rcases hd5 with h | h
    · rcases hfa.2.2 h with h | h <;> (subst h; split <;> split <;> split <;> omega)
    · rcases hfb.2.2 h with h | h <;> (subst h; split <;> split <;> split <;> omega)
  simp only [e1, e2]
  rw [hfar]
  clear hfar
  refine ⟨s, L, x1, z1, rfl, hL, by omega, fun H1 e1' => ?_⟩
  have hL1 := hL.ex e1'
  have hins1 := hL1.ins
  have ho1 := tp_ex e1' ho
  walk_at "rd"
  refine ⟨s, L, _, _, rfl, hL1, by omega, fun H2 e2' => ?_⟩
  have hL2 := hL1.ex e2'
  have hins2 := hL2.ins
  have hp2 := tp_ex e2' (tp_ex e1' hp)
  have e12 := e1'.tr e2'
  walk_at "rd"
  refine for_range (fun i σ H' => Here (Ex H2 H' ∧ (∀ u : Int, 1 ≤ u → u < 1 + i → 0 ≤ lft L.h x1 z1 α β far e u) ∧ ∃ (r10 r11 r12 r13 : Option V) (room : V), σ = [some (.ref s), some (.ref p), some (.ref o), some (.int e), some (.int (far * α)), some (.int (far * β)), some (.int far), some (.int (L.h x1 z1 + e)), some (.int (L.h (x1 + far * α) (z1 + far * β) + e - (L.h x1 z1 + e))), some room, r10, r11, r12, r13] ∧
    Here ((i = 0 ∧ room = .non) ∨ ∃ m, room = .int m ∧ (∃ t : Int, 1 ≤ t ∧ t < 1 + i ∧ lft L.h x1 z1 α β far e t = m) ∧ ∀ t : Int, 1 ≤ t → t < 1 + i → m ≤ lft L.h x1 z1 α β far e t))) (.it ⟨Ex.rfl' _, fun u h1 h2 => absurd h2 (by omega), none, none, none, none, .non, rfl, .it (.inl ⟨rfl, rfl⟩)⟩) ?_ ?_
  · intro i σ H' hi hh
    obtain ⟨he, hpos, r10, r11, r12, r13, room, rfl, hroom⟩ := hh.get
    have hL3 := hL2.ex he
    have hins3 := hL3.ins
    have hp3 := tp_ex he hp2
    have hta : -(1 + (i : Int)) ≤ (1 + (i : Int)) * α ∧ (1 + (i : Int)) * α ≤ 1 + i := by
      rcases (show α = -1 ∨ α = 0 ∨ α = 1 by omega) with rfl | rfl | rfl <;> omega
    have htb : -(1 + (i : Int)) ≤ (1 + (i : Int)) * β ∧ (1 + (i : Int)) * β ≤ 1 + i := by
      rcases (show β = -1 ∨ β = 0 ∨ β = 1 by omega) with rfl | rfl | rfl <;> omega
    walk_at "rd"
    have hf0 : 0 < far := by omega
    simp only [near_mul hf0]
    refine ⟨s, L, _, _, rfl, hL3, by omega, fun H3 e3' => ?_⟩
    have he3 := he.tr e3'
    walk_at "rd"
    refine ite2d (fun h => ?_) (fun h => ?_)
    · have hn : lft L.h x1 z1 α β far e (1 + (i : Int)) < 0 := h
      walk_at "rd"
      rename_i t1 ht1 t2 ht2
      exact k1 _ (1 + (i : Int)) t2 t1 (((e12.tr he3).nw ht1).nw ht2) ⟨by omega, by omega, hn, fun u h1 h2 => hpos u h1 h2⟩ upd_same (tp_new ht2 tp_up)
    · have hn : 0 ≤ lft L.h x1 z1 α β far e (1 + (i : Int)) := Int.not_lt.mp h
      have hpos2 : ∀ u : Int, 1 ≤ u → u < 1 + ((i + 1 : Nat) : Int) → 0 ≤ lft L.h x1 z1 α β far e u := fun u h1 h2 => by
        by_cases c1 : u = 1 + (i : Int)
        · rw [c1]; exact hn
        · exact hpos u h1 (by omega)
      rcases hroom.get with ⟨rfl, rfl⟩ | ⟨m, rfl, ⟨t0, ht1, ht2, ht3⟩, hm⟩
      · walk_at "rd"
        refine .it ⟨he3, hpos2, _, _, _, _, _, rfl, .it (.inr ⟨_, rfl, ⟨1 + ((0 : Nat) : Int), by omega, by omega, rfl⟩, fun t h1 h2 => ?_⟩)⟩
        obtain rfl : t = 1 + ((0 : Nat) : Int) := by omega
        exact Int.le_refl _
      · walk_at "rd"
        refine ite2d (fun hlt => ?_) (fun hlt => ?_)
        · walk_at "rd"
          refine .it ⟨he3, hpos2, _, _, _, _, _, rfl, .it (.inr ⟨_, rfl, ⟨1 + (i : Int), by omega, by omega, rfl⟩, fun t h1 h2 => ?_⟩)⟩
          by_cases c1 : t = 1 + (i : Int)
          · rw [c1]; exact Int.le_refl _
          · have := hm t h1 (by omega)
            have hlt2 : lft L.h x1 z1 α β far e (1 + (i : Int)) < m := hlt
            exact Int.le_trans (Int.le_of_lt hlt2) this
        · walk_at "rd"
          refine .it ⟨he3, hpos2, _, _, _, _, _, rfl, .it (.inr ⟨m, rfl, ⟨t0, ht1, by omega, ht3⟩, fun t h1 h2 => ?_⟩)⟩
          by_cases c1 : t = 1 + (i : Int)
          · rw [c1]; exact Int.not_lt.mp hlt
          · exact hm t h1 (by omega)
  · intro σ H' hh
    obtain ⟨he, hpos, r10, r11, r12, r13, room, rfl, hroom⟩ := hh.get
    rcases hroom.get with ⟨h0, rfl⟩ | ⟨m, rfl, ⟨t0, ht1', ht2', ht3⟩, hm⟩
    · omega
    · walk_at "rd"
      intro q H3 hq e3 hq3
      walk_at "rd"
      rename_i t1 ht1
      exact k2 _ m t1 q (((e12.tr he).tr e3).nw ht1) ⟨⟨t0, ht1', by omega, ht3⟩, fun t h1 h2 => ⟨hm t h1 (by omega), hpos t h1 (by omega)⟩⟩ upd_same (tp_new ht1 hq3)

end Kw
set_option Elab.async false
set_option linter.all false
set_option maxRecDepth 100000
set_option maxHeartbeats 2000000
namespace Kw
open PySem PySem.Spec PyProof.Rows L2
local macro_rules | `(tactic| walk_at "in") => `(tactic| repeat (first | assumption | refine in_new (by assumption) ?_ | refine in_ex (by assumption) ?_))
local macro_rules | `(tactic| walk_at "lk") => `(tactic| first | exact lk_laid _ | exact lk_code _ | exact lk_grain _ | exact lk_past _ | exact lk_future _ | exact lk_shelf _ | exact lk_last _)
local macro_rules | `(tactic| walk_at "tp") => `(tactic| repeat (first | assumption | exact tp_up | refine tp_new (by assumption) ?_ | refine tp_lst (by assumption) ?_ | refine tp_ex (by assumption) ?_ | refine tp_mv (by assumption) ?_))
local macro_rules | `(tactic| walk_at "sq") => `(tactic| repeat (first | assumption | exact sq_up | exact sl_up | exact tp_sq (by assumption) | exact Evl.sq_of (by assumption) | refine sq_new (by assumption) ?_ | refine sl_new (by assumption) ?_ | refine sq_lst (by assumption) ?_ | refine sq_ex (by assumption) ?_ | refine sl_ex (by assumption) ?_ | refine sq_mv (by assumption) ?_))
local macro_rules | `(tactic| walk_at "ex") => `(tactic| repeat (first | assumption | exact Ex.rfl' _ | refine Ex.nw ?_ (by assumption) | refine Ex.tr ?_ (by assumption)))
local macro_rules | `(tactic| walk_at "cond") => `(tactic| first | decide | exact Or.inl ⟨by omega, by omega⟩ | exact Or.inr ⟨by omega, by omega⟩ | exact ⟨by omega, by omega⟩ | omega)
local macro_rules | `(tactic| walk_at "rd1") => `(tactic| first
  | refine ⟨_, rfl, ?_⟩
  | refine ⟨_, _, rfl, rfl, ?_⟩
  | refine ⟨_, _, rfl, ?_⟩
  | refine ⟨rfl, ?_⟩
  | refine ⟨_, _, _, rfl, ?_⟩
  | (refine' ⟨_, _, _, _, rfl, rfl, ?h, ?ha, ?q⟩; (case h => walk_at "sq"); (case ha => first | assumption | rfl | exact at_c0 _ _ | exact at_c1 _ _ _ | exact at_c2 _ _ _ _ | (refine at_vals ?_; omega) | exact atI_nat (by assumption)))
  | refine ⟨_, _, _, _, rfl, ?_⟩
  | refine ⟨_, _, _, _, _, rfl, ?_⟩
  | (refine' ⟨_, _, rfl, ?h, ?ha, ?q⟩; (case h => walk_at "sq"); (case ha => first | rfl | exact Nat.le_of_ble_eq_true rfl))
  | refine Or.inr ⟨_, rfl, ?_⟩
  | (refine' ⟨_, _, rfl, Or.inr ?h, ?q⟩; (case h => walk_at "sq"))
  | (refine' ⟨_, _, rfl, Or.inl ?h, ?q⟩; (case h => walk_at "sq"))
  | refine ⟨_, _, _, _, _, rfl, .ty _, .base (.int _), kit_ty kit_ii, ?_⟩
  | refine ⟨_, _, _, _, _, rfl, .ty _, .base (.int _), kit_ty kit_ib, ?_⟩
  | refine ⟨_, _, _, _, _, rfl, .ty _, .base (.str _), kit_ty kit_ss, ?_⟩
  | refine ⟨_, _, _, _, _, rfl, .ty _, .base (.tup (by assumption)), kit_ty kit_tt, ?_⟩
  | with_reducible refine iteT ?_
  | with_reducible refine iteF ?_
  | refine ite_yes (by first | decide | omega) ?_
  | refine ite_no (by first | decide | omega) ?_
  | refine ite_no (fun z => absurd (V.str.inj z) (by assumption)) ?_
  | refine ite_no (fun z => absurd (V.int.inj z) (by omega)) ?_
  | refine ite_yes (congrArg V.int (by omega)) ?_
  | refine ite_nyes (by first | decide | omega) ?_
  | refine ite_nno (by first | decide | omega) ?_
  | (refine' And.intro (Or.inl ⟨rfl, _, ?h⟩) ?q; (case h => first | exact SqL.of (by first | assumption | exact upd_same) | walk_at "sq"))
  | (refine' And.intro ?h ?q; (case h => exact Evl.sz_of (Nat.le_of_ble_eq_true rfl)))
  | refine fun p (hp : (_ : Hp) p = none) => ?_
  | (refine' ⟨_, _, rfl, Or.inr ?h, rfl, rfl, ?q⟩; (case h => walk_at "sq"))
  | (refine' ⟨_, _, rfl, Or.inl ?h, rfl, rfl, ?q⟩; (case h => walk_at "sq"))
  | (refine' ⟨_, _, _, _, _, rfl, ?h, ?c, ?n, ?l, ?q⟩; (case h => walk_at "in"); (case c => assumption); (case n => assumption); (case l => walk_at "lk"))
  | (refine' ⟨_, _, _, rfl, ?h, ?l, ?q⟩; (case h => walk_at "in"); (case l => exact lk_none (by decide) _))
  | (refine' And.intro ?h ?q; (case h => walk_at "cond")))
local macro_rules | `(tactic| walk_at "rd") => `(tactic| repeat walk_at "rd1")
local macro_rules | `(tactic| walk_at "rs") => `(tactic| repeat' (first | walk_at "rd1" | refine ite2d (fun h => ?_) (fun h => ?_) | refine ite2n (fun h => ?_) (fun h => ?_) | refine ite2 (fun h => ?_) (fun h => ?_)))
local macro_rules | `(tactic| walk_at "pu") => `(tactic| repeat (first | assumption | refine purse_new ?_ (by assumption)))
local macro_rules | `(tactic| walk_at "mv") => `(tactic| repeat (first | assumption | exact Mv.rf _ _ | refine Mv.nw ?_ (by assumption) | refine Mv.tr ?_ (by assumption)))

variable {P : Program} {w : World} {K : PySem.W.Frag} {mg : Str → Option Value} {base : Heap} {D : Ad}
/-! ### _law_edits -/
theorem PurseAt.le {H : Hp} {p : Addr} {n m : Nat} (h : PurseAt H p n) (e : n ≤ m) : PurseAt H p m := by
  obtain ⟨a, b, c, h1, h2, h3, h4, h5, h6⟩ := h
  exact ⟨a, b, c, h1, h2, h3, h4, h5, by omega⟩
theorem mv_tst {p : Addr} {H H' : Hp} (e : Mv p H H') : Tst H H' := fun _ _ h => tp_mv e h
theorem edp_all {H H' : Hp} (t : Tst H H') : ∀ {us : List V} {es : List Ed}, Paired (EdP H) us es → Paired (EdP H') us es
  | _, _, .nil => .nil
  | _, _, .cons h r => .cons (h.mono t) (edp_all t r)
theorem pickW {r : Int} (h0 : 0 ≤ r) (h1 : r < 5) : ∃ x : Str, atI [V.str "set", .str "raise", .str "least", .str "most", .str "copy"] r = some (.str x) ∧ (x = "copy" ∨ (NumW x ∧ x ≠ "copy")) := by
  rcases (show r = 0 ∨ r = 1 ∨ r = 2 ∨ r = 3 ∨ r = 4 by omega) with rfl | rfl | rfl | rfl | rfl
  · exact ⟨_, rfl, .inr ⟨.set, by decide⟩⟩
  · exact ⟨_, rfl, .inr ⟨.raise, by decide⟩⟩
  · exact ⟨_, rfl, .inr ⟨.least, by decide⟩⟩
  · exact ⟨_, rfl, .inr ⟨.most, by decide⟩⟩
  · exact ⟨_, rfl, .inl rfl⟩
theorem Mv.mu {p l : Addr} {H H' : Hp} {o : HO} (m : Mv p H H') (h : H l = none) : Mv p H (upd H' l o) := fun b u hb hn => by
  rw [upd_ne (ne_of_none hb h)]
  exact m b u hb hn
theorem purse_upd {H : Hp} {p l : Addr} {n : Nat} {o : HO} (h : PurseAt H p n) (hl : l ≠ p) : PurseAt (upd H l o) p n := by
  obtain ⟨a, b, c, h1, h2⟩ := h
  exact ⟨a, b, c, by rw [upd_ne (Ne.symm hl)]; exact h1, h2⟩
abbrev BxIn (a b c d : Int) : Prop := -1000000 ≤ a ∧ a ≤ c ∧ c ≤ a + 11 ∧ c ≤ 999999 ∧ -1000000 ≤ b ∧ b ≤ d ∧ d ≤ b + 11 ∧ d ≤ 999999
def spEdits : Sp := fun vs H Q _ => ∃ (p q : Addr) (n : Nat) (a b c d : Int), vs = [.ref p, .ref q, .int 3] ∧ PurseAt H p n ∧ n < 2 ^ 50 ∧ Tp H q [.int a, .int b, .int c, .int d] ∧ BxIn a b c d ∧
  ∀ (l : Addr) (H' : Hp) (us : List V) (es : List Ed), PurseAt H' p (n + 22) → Mv p H H' → H l = none → H' l = some (.lst us) → Paired (EdP H') us es → (∀ e ∈ es, EdOk e) → es.length ≤ 3 → Q (.ref l) H'
theorem h_law_edits (F : DefAt K mg "_law_edits" s__law_edits [] []) (T : Txt K w mg D) (G_law_draw : Has P w K mg base 2 "_law_draw" spDraw []) : Has P w K mg base 3 "_law_edits" spEdits [] := by
  refine has_of F sc__law_edits (fun _ _ _ _ _ _ us hl => match us, hl with | [_, _, _], _ => rfl) ?_ ?_
  · rintro _ _ _ _ ⟨_, _, _, _, _, _, _, rfl, _⟩; rfl
  · rintro f cdv A outer s0 H vs Q E hr ⟨p, q, n, a, b, c, d, rfl, hp, hn, hq, hb, kk⟩
    refine ⟨_, pss_cons (ps_set (i := 3) sc__law_edits.nd rfl (Or.inl rfl) (pe_lst (pa_nil)))
      (pss_cons (ps_for PassesOwn.never rfl (pi_range1 (by rfl) T.f_range (pa_cons (pe_c G_law_draw (hr.mono (by decide)) (by rfl) (pa_cons (pv 0) (pa_cons (pe_op op_add (pv 2) (pe_int)) (pa_nil)))) (pa_nil))) (pg_name (i := 4) sc__law_edits.nd rfl (Or.inl rfl)) (pss_cons (ps_set (i := 5) sc__law_edits.nd rfl (Or.inl rfl) (pe_op op_add (pe_ix ix_tup (pv 1) (pe_int) (fun _ _ => rfl)) (pe_c G_law_draw (hr.mono (by decide)) (by rfl) (pa_cons (pv 0) (pa_cons (pe_op op_add (pe_op op_sub (pe_ix ix_tup (pv 1) (pe_int) (fun _ _ => rfl)) (pe_ix ix_tup (pv 1) (pe_int) (fun _ _ => rfl))) (pe_int)) (pa_nil))))))
      (pss_cons (ps_set (i := 6) sc__law_edits.nd rfl (Or.inl rfl) (pe_op op_add (pe_ix ix_tup (pv 1) (pe_int) (fun _ _ => rfl)) (pe_c G_law_draw (hr.mono (by decide)) (by rfl) (pa_cons (pv 0) (pa_cons (pe_op op_add (pe_op op_sub (pe_ix ix_tup (pv 1) (pe_int) (fun _ _ => rfl)) (pe_ix ix_tup (pv 1) (pe_int) (fun _ _ => rfl))) (pe_int)) (pa_nil))))))
      (pss_cons (ps_set (i := 7) sc__law_edits.nd rfl (Or.inl rfl) (pe_tup (pa_cons (pv 5) (pa_cons (pv 6) (pa_cons (pe_op op_add (pv 5) (pe_c G_law_draw (hr.mono (by decide)) (by rfl) (pa_cons (pv 0) (pa_cons (pe_op op_add (pe_op op_sub (pe_ix ix_tup (pv 1) (pe_int) (fun _ _ => rfl)) (pv 5)) (pe_int)) (pa_nil))))) (pa_cons (pe_op op_add (pv 6) (pe_c G_law_draw (hr.mono (by decide)) (by rfl) (pa_cons (pv 0) (pa_cons (pe_op op_add (pe_op op_sub (pe_ix ix_tup (pv 1) (pe_int) (fun _ _ => rfl)) (pv 6)) (pe_int)) (pa_nil))))) (pa_nil)))))))
      (pss_cons (ps_set (i := 8) sc__law_edits.nd rfl (Or.inl rfl) (pe_ix ix_list (pe_lst (pa_cons (pe_str) (pa_cons (pe_str) (pa_cons (pe_str) (pa_cons (pe_str) (pa_cons (pe_str) (pa_nil))))))) (pe_c G_law_draw (hr.mono (by decide)) (by rfl) (pa_cons (pv 0) (pa_cons (pe_int) (pa_nil)))) (fun _ _ => rfl)))
      (pss_one (ps_if (pt_cmpR op_eq (pv 8) (pe_str) (nomark _)) (pss_one (ps_expr (pe_bm PySem.F.plainAttrs_list PySem.F.slot_list_append PySem.F.type_list_append mt_append (pv 3) (pa_cons (pe_tup (pa_cons (pe_str) (pa_cons (pv 7) (pa_cons (pe_op op_sub (pe_c G_law_draw (hr.mono (by decide)) (by rfl) (pa_cons (pv 0) (pa_cons (pe_int) (pa_nil)))) (pe_int)) (pa_cons (pe_op op_sub (pe_c G_law_draw (hr.mono (by decide)) (by rfl) (pa_cons (pv 0) (pa_cons (pe_int) (pa_nil)))) (pe_int)) (pa_nil)))))) (pa_nil))))) (pss_one (ps_expr (pe_bm PySem.F.plainAttrs_list PySem.F.slot_list_append PySem.F.type_list_append mt_append (pv 3) (pa_cons (pe_tup (pa_cons (pv 8) (pa_cons (pv 7) (pa_cons (pe_op op_sub (pe_c G_law_draw (hr.mono (by decide)) (by rfl) (pa_cons (pv 0) (pa_cons (pe_int) (pa_nil)))) (pe_int)) (pa_nil))))) (pa_nil))))))))))))
      (pss_one (ps_ret (pv 3)))), ?_⟩
    walk_at "rd"
    rename_i l hl
    have hlp := purse_ne hp hl
    refine ⟨p, 4, n, rfl, purse_new hp hl, by omega, by omega, by omega, fun r0 H1 r00 r01 hp1 hm1 => ?_⟩
    have hl1 := hm1 l _ upd_same fun e => absurd e hlp
    have m1 : Mv p H H1 := ((Mv.rf p H).nw hl).tr hm1
    walk_at "rd"
    refine for_range (fun i σ H' => Here (∃ (us : List V) (es : List Ed) (m : Nat) (x4 x5 x6 x7 x8 : Option V), PurseAt H' p m ∧ m ≤ n + 1 + 7 * i ∧ Mv p H H' ∧ H' l = some (.lst us) ∧ Paired (EdP H') us es ∧ (∀ e ∈ es, EdOk e) ∧ es.length = i ∧ σ = [some (.ref p), some (.ref q), some (.int 3), some (.ref l), x4, x5, x6, x7, x8])) (.it ⟨[], [], n + 1, none, none, none, none, none, hp1, by omega, m1, hl1, .nil, fun _ h => (nomatch h), rfl, rfl⟩) ?_ ?_
    · intro i σ H' hi hh
      obtain ⟨us, es, m, x4, x5, x6, x7, x8, hpm, hmn, mH, hlu, hpr, hok, hlen, rfl⟩ := hh.get
      have hq1 : Tp H' q [.int a, .int b, .int c, .int d] := tp_mv mH hq
      have hul := pair_len hpr
      walk_at "rd"
      refine ⟨p, c - a + 1, m, rfl, hpm, by omega, by omega, by omega, fun u1 H1' u10 u11 hp1 hm1 => ?_⟩
      have hq2 := tp_mv hm1 hq1
      walk_at "rd"
      refine ⟨p, d - b + 1, m + 1, rfl, hp1, by omega, by omega, by omega, fun u2 H2 u20 u21 hp2 hm2 => ?_⟩
      have hq3 := tp_mv hm2 hq2
      walk_at "rd"
      refine ⟨p, c - (a + u1) + 2, m + 2, rfl, hp2, by omega, by omega, by omega, fun u3 H3 u30 u31 hp3 hm3 => ?_⟩
      have hq4 := tp_mv hm3 hq3
      walk_at "rd"
      refine ⟨p, d - (b + u2) + 2, m + 3, rfl, hp3, by omega, by omega, by omega, fun u4 H4 u40 u41 hp4 hm4 => ?_⟩
      walk_at "rd"
      rename_i t1 ht1 l2 hl2
      have hp5 := purse_new (purse_new (o := .tup [.int (a + u1), .int (b + u2), .int (a + u1 + u3), .int (b + u2 + u4)]) hp4 ht1) (o := .lst [V.str "set", .str "raise", .str "least", .str "most", .str "copy"]) hl2
      refine ⟨p, 5, m + 4, rfl, hp5, by omega, by omega, by omega, fun u5 H5 u50 u51 hp6 hm5 => ?_⟩
      have el2 := hm5 l2 _ upd_same fun e => absurd e (purse_ne (purse_new hp4 ht1) hl2)
      obtain ⟨x, hx, hxw⟩ := pickW u50 u51
      refine ⟨_, _, _, _, rfl, rfl, Evl.sq_of el2, hx, ?_⟩
      have ht5 : Tp H5 t1 [.int (a + u1), .int (b + u2), .int (a + u1 + u3), .int (b + u2 + u4)] := tp_mv hm5 (tp_new hl2 tp_up)
      have mA : Mv p H' H5 := (((((hm1.tr hm2).tr hm3).tr hm4).nw ht1).nw hl2).tr hm5
      have hl5 := mA l _ hlu fun e => absurd e hlp
      rcases hxw with rfl | ⟨hw, hne⟩
      · walk_at "rd"
        refine ⟨p, 9, m + 5, rfl, hp6, by omega, by omega, by omega, fun u6 H6 u60 u61 hp7 hm6 => ?_⟩
        walk_at "rd"
        refine ⟨p, 9, m + 6, rfl, hp7, by omega, by omega, by omega, fun u7 H7 u70 u71 hp8 hm7 => ?_⟩
        walk_at "rd"
        rename_i t2 ht2
        have mB : Mv p H' (upd H7 t2 (.tup [.str "copy", .ref t1, .int (u6 - 4), .int (u7 - 4)])) := ((mA.tr hm6).tr hm7).nw ht2
        have hlB := mB l _ hlu fun e => absurd e hlp
        refine ⟨l, us, _, rfl, rfl, hlB, Evl.sz_lt (by omega), ?_⟩
        have htB : Tp (upd H7 t2 (.tup [.str "copy", .ref t1, .int (u6 - 4), .int (u7 - 4)])) t1 [.int (a + u1), .int (b + u2), .int (a + u1 + u3), .int (b + u2 + u4)] := tp_new ht2 (tp_mv hm7 (tp_mv hm6 ht5))
        refine .it ⟨_, es ++ [⟨"copy", a + u1, b + u2, a + u1 + u3, b + u2 + u4, u6 - 4, u7 - 4⟩], m + 7, _, _, _, _, _, purse_upd (purse_new hp8 ht2) hlp, by omega, (mH.tr mB).mu hl, upd_same, ?_, ?_, by simp [hlen], rfl⟩
        · exact pair_snoc (edp_all (fun _ _ h => tp_lst hlB (tp_mv mB h)) hpr) ⟨t2, t1, rfl, tp_lst hlB htB, .inr ⟨rfl, tp_lst hlB tp_up⟩⟩
        · intro e he
          rcases List.mem_append.mp he with he | he
          · exact hok e he
          · rw [List.mem_singleton.mp he]
            exact ⟨⟨by show _ ≤ a + u1; omega, by show a + u1 ≤ a + u1 + u3; omega, by show a + u1 + u3 ≤ _; omega, by show _ ≤ b + u2; omega, by show b + u2 ≤ b + u2 + u4; omega, by show b + u2 + u4 ≤ _; omega⟩, ⟨by show _ ≤ u6 - 4; omega, by show u6 - 4 ≤ _; omega⟩, fun _ => ⟨by show _ ≤ u6 - 4; omega, by show u6 - 4 ≤ _; omega, by show _ ≤ u7 - 4; omega, by show u7 - 4 ≤ _; omega⟩⟩
      · walk_at "rd"
        refine ⟨p, 41, m + 5, rfl, hp6, by omega, by omega, by omega, fun u6 H6 u60 u61 hp7 hm6 => ?_⟩
        walk_at "rd"
        rename_i t2 ht2
        have mB : Mv p H' (upd H6 t2 (.tup [.str x, .ref t1, .int (u6 - 20)])) := (mA.tr hm6).nw ht2
        have hlB := mB l _ hlu fun e => absurd e hlp
        refine ⟨l, us, _, rfl, rfl, hlB, Evl.sz_lt (by omega), ?_⟩
        have htB : Tp (upd H6 t2 (.tup [.str x, .ref t1, .int (u6 - 20)])) t1 [.int (a + u1), .int (b + u2), .int (a + u1 + u3), .int (b + u2 + u4)] := tp_new ht2 (tp_mv hm6 ht5)
        refine .it ⟨_, es ++ [⟨x, a + u1, b + u2, a + u1 + u3, b + u2 + u4, u6 - 20, 0⟩], m + 6, _, _, _, _, _, purse_upd (purse_new hp7 ht2) hlp, by omega, (mH.tr mB).mu hl, upd_same, ?_, ?_, by simp [hlen], rfl⟩
        · exact pair_snoc (edp_all (fun _ _ h => tp_lst hlB (tp_mv mB h)) hpr) ⟨t2, t1, rfl, tp_lst hlB htB, .inl ⟨hw, tp_lst hlB tp_up⟩⟩
        · intro e he
          rcases List.mem_append.mp he with he | he
          · exact hok e he
          · rw [List.mem_singleton.mp he]
            exact ⟨⟨by show _ ≤ a + u1; omega, by show a + u1 ≤ a + u1 + u3; omega, by show a + u1 + u3 ≤ _; omega, by show _ ≤ b + u2; omega, by show b + u2 ≤ b + u2 + u4; omega, by show b + u2 + u4 ≤ _; omega⟩, ⟨by show _ ≤ u6 - 20; omega, by show u6 - 20 ≤ _; omega⟩, fun e => absurd e hne⟩
    · intro σ H' hh
      obtain ⟨us, es, m, x4, x5, x6, x7, x8, hpm, hmn, mH, hlu, hpr, hok, hlen, rfl⟩ := hh.get
      walk_at "rd"
      exact kk l H' us es (hpm.le (by omega)) mH hl hlu hpr hok (by omega)

end Kw
set_option Elab.async false
set_option linter.all false
set_option maxRecDepth 100000
set_option maxHeartbeats 2000000
namespace Kw
open PySem PySem.Spec PyProof.Rows L2
local macro_rules | `(tactic| walk_at "in") => `(tactic| repeat (first | assumption | refine in_new (by assumption) ?_ | refine in_ex (by assumption) ?_))
local macro_rules | `(tactic| walk_at "lk") => `(tactic| first | exact lk_laid _ | exact lk_code _ | exact lk_grain _ | exact lk_past _ | exact lk_future _ | exact lk_shelf _ | exact lk_last _)
local macro_rules | `(tactic| walk_at "tp") => `(tactic| repeat (first | assumption | exact tp_up | refine tp_new (by assumption) ?_ | refine tp_lst (by assumption) ?_ | refine tp_ex (by assumption) ?_ | refine tp_mv (by assumption) ?_))
local macro_rules | `(tactic| walk_at "sq") => `(tactic| repeat (first | assumption | exact sq_up | exact sl_up | exact tp_sq (by assumption) | exact Evl.sq_of (by assumption) | refine sq_new (by assumption) ?_ | refine sl_new (by assumption) ?_ | refine sq_lst (by assumption) ?_ | refine sq_ex (by assumption) ?_ | refine sl_ex (by assumption) ?_ | refine sq_mv (by assumption) ?_))
local macro_rules | `(tactic| walk_at "ex") => `(tactic| repeat (first | assumption | exact Ex.rfl' _ | refine Ex.nw ?_ (by assumption) | refine Ex.tr ?_ (by assumption)))
local macro_rules | `(tactic| walk_at "cond") => `(tactic| first | decide | exact Or.inl ⟨by omega, by omega⟩ | exact Or.inr ⟨by omega, by omega⟩ | exact ⟨by omega, by omega⟩ | omega)
local macro_rules | `(tactic| walk_at "rd1") => `(tactic| first
  | refine ⟨_, rfl, ?_⟩
  | refine ⟨_, _, rfl, rfl, ?_⟩
  | refine ⟨_, _, rfl, ?_⟩
  | refine ⟨rfl, ?_⟩
  | refine ⟨_, _, _, rfl, ?_⟩
  | (refine' ⟨_, _, _, _, rfl, rfl, ?h, ?ha, ?q⟩; (case h => walk_at "sq"); (case ha => first | assumption | rfl | exact at_c0 _ _ | exact at_c1 _ _ _ | exact at_c2 _ _ _ _ | (refine at_vals ?_; omega) | exact atI_nat (by assumption)))
  | refine ⟨_, _, _, _, rfl, ?_⟩
  | refine ⟨_, _, _, _, _, rfl, ?_⟩
  | (refine' ⟨_, _, rfl, ?h, ?ha, ?q⟩; (case h => walk_at "sq"); (case ha => first | rfl | exact Nat.le_of_ble_eq_true rfl))
  | refine Or.inr ⟨_, rfl, ?_⟩
  | (refine' ⟨_, _, rfl, Or.inr ?h, ?q⟩; (case h => walk_at "sq"))
  | (refine' ⟨_, _, rfl, Or.inl ?h, ?q⟩; (case h => walk_at "sq"))
  | refine ⟨_, _, _, _, _, rfl, .ty _, .base (.int _), kit_ty kit_ii, ?_⟩
  | refine ⟨_, _, _, _, _, rfl, .ty _, .base (.int _), kit_ty kit_ib, ?_⟩
  | refine ⟨_, _, _, _, _, rfl, .ty _, .base (.str _), kit_ty kit_ss, ?_⟩
  | refine ⟨_, _, _, _, _, rfl, .ty _, .base (.tup (by assumption)), kit_ty kit_tt, ?_⟩
  | with_reducible refine iteT ?_
  | with_reducible refine iteF ?_
  | refine ite_yes (by first | decide | omega) ?_
  | refine ite_no (by first | decide | omega) ?_
  | refine ite_no (fun z => absurd (V.str.inj z) (by assumption)) ?_
  | refine ite_no (fun z => absurd (V.int.inj z) (by omega)) ?_
  | refine ite_yes (congrArg V.int (by omega)) ?_
  | refine ite_nyes (by first | decide | omega) ?_
  | refine ite_nno (by first | decide | omega) ?_
  | (refine' And.intro (Or.inl ⟨rfl, _, ?h⟩) ?q; (case h => first | exact SqL.of (by first | assumption | exact upd_same) | walk_at "sq"))
  | (refine' And.intro ?h ?q; (case h => exact Evl.sz_of (Nat.le_of_ble_eq_true rfl)))
  | refine fun p (hp : (_ : Hp) p = none) => ?_
  | (refine' ⟨_, _, rfl, Or.inr ?h, rfl, rfl, ?q⟩; (case h => walk_at "sq"))
  | (refine' ⟨_, _, rfl, Or.inl ?h, rfl, rfl, ?q⟩; (case h => walk_at "sq"))
  | (refine' ⟨_, _, _, _, _, rfl, ?h, ?c, ?n, ?l, ?q⟩; (case h => walk_at "in"); (case c => assumption); (case n => assumption); (case l => walk_at "lk"))
  | (refine' ⟨_, _, _, rfl, ?h, ?l, ?q⟩; (case h => walk_at "in"); (case l => exact lk_none (by decide) _))
  | (refine' And.intro ?h ?q; (case h => walk_at "cond")))
local macro_rules | `(tactic| walk_at "rd") => `(tactic| repeat walk_at "rd1")
local macro_rules | `(tactic| walk_at "rs") => `(tactic| repeat' (first | walk_at "rd1" | refine ite2d (fun h => ?_) (fun h => ?_) | refine ite2n (fun h => ?_) (fun h => ?_) | refine ite2 (fun h => ?_) (fun h => ?_)))
local macro_rules | `(tactic| walk_at "pu") => `(tactic| repeat (first | assumption | refine purse_new ?_ (by assumption)))
local macro_rules | `(tactic| walk_at "mv") => `(tactic| repeat (first | assumption | exact Mv.rf _ _ | refine Mv.nw ?_ (by assumption) | refine Mv.tr ?_ (by assumption)))

variable {P : Program} {w : World} {K : PySem.W.Frag} {mg : Str → Option Value} {base : Heap} {D : Ad}
/-! ### a land that is edited and put back -/
structure LRun (D : Ad) (s : Addr) (H0 : Hp) (L0 : Lnd) (es : List Ed) (ps : List (List Ed)) (nf : Nat) (H : Hp) (L : Lnd) : Prop where
  land : LandAt D H s L
  g : L.g = L0.g
  fs : L.fs = L0.fs
  es : L.es = es
  ps : L.ps = ps
  nf : L.nf = nf
  past : L.past = L0.past
  shelf : L.shelf = L0.shelf
  fut : ∀ o, H0 L.fut = some o → L.fut ∈ LS s L0
  fr : Frs (LS s L0) H0 H
theorem LRun.h {s : Addr} {H0 H : Hp} {L0 L : Lnd} {es : List Ed} {ps : List (List Ed)} {nf : Nat} (r : LRun D s H0 L0 es ps nf H L) : L.h = hgt L0.bs es := by
  unfold Lnd.h Lnd.bs
  rw [r.g, r.fs, r.es]
theorem LRun.start {s : Addr} {H : Hp} {L : Lnd} (h : LandAt D H s L) : LRun D s H L L.es L.ps L.nf H L := ⟨h, rfl, rfl, rfl, rfl, rfl, rfl, rfl, fun _ _ => by unfold LS; simp, Frs.rf _ _⟩
theorem LRun.ex {s : Addr} {H0 H H' : Hp} {L0 L : Lnd} {es : List Ed} {ps : List (List Ed)} {nf : Nat} (r : LRun D s H0 L0 es ps nf H L) (e : Ex H H') : LRun D s H0 L0 es ps nf H' L :=
  ⟨r.land.ex e, r.g, r.fs, r.es, r.ps, r.nf, r.past, r.shelf, r.fut, r.fr.tr (.ex e)⟩
theorem LRun.frs {s : Addr} {H0 H H' : Hp} {L0 L : Lnd} {es : List Ed} {ps : List (List Ed)} {nf : Nat} (r : LRun D s H0 L0 es ps nf H L) (f : Frs (LS s L) H H') : Frs (LS s L0) H0 H' := fun b o hb hn => by
  refine f b o (r.fr b o hb hn) fun hm => ?_
  have hf := r.fut
  unfold LS at hm
  simp only [List.mem_cons, List.not_mem_nil, or_false] at hm
  rcases hm with h | h | h | h
  · exact hn (by rw [h]; unfold LS; simp)
  · exact hn (by rw [h, r.past]; unfold LS; simp)
  · exact hn (by rw [h]; exact hf o (by rw [← h]; exact hb))
  · exact hn (by rw [h, r.shelf]; unfold LS; simp)
theorem LRun.edit {s : Addr} {H0 H H' : Hp} {L0 L L' : Lnd} {es : List Ed} {ps : List (List Ed)} {nf : Nat} {e : Ed} (r : LRun D s H0 L0 es ps nf H L) (h0 : LandAt D H' s L') (h1 : L'.g = L.g) (h2 : L'.fs = L.fs) (h3 : L'.es = L.es ++ [e]) (h4 : L'.ps = L.ps ++ [L.es]) (h5 : L'.past = L.past) (h6 : L'.shelf = L.shelf) (h7 : L'.nf = 0) (h8 : H L'.fut = none) (f : Frs (LS s L) H H') : LRun D s H0 L0 (es ++ [e]) (ps ++ [es]) 0 H' L' :=
  ⟨h0, h1.trans r.g, h2.trans r.fs, by rw [h3, r.es], by rw [h4, r.ps, r.es], h7, h5.trans r.past, h6.trans r.shelf, fun o ho => Classical.byContradiction fun hn => (by rw [r.fr _ o ho hn] at h8; cases h8), r.frs f⟩
theorem LRun.back {s : Addr} {H0 H H' : Hp} {L0 L L' : Lnd} {es es' : List Ed} {ps : List (List Ed)} {nf : Nat} (r : LRun D s H0 L0 es (ps ++ [es']) nf H L) (h0 : LandAt D H' s L') (h1 : L'.g = L.g) (h2 : L'.fs = L.fs) (h3 : L'.es = es') (h4 : L'.ps = ps) (h5 : L'.past = L.past) (h6 : L'.fut = L.fut) (h7 : L'.shelf = L.shelf) (h8 : L'.nf = L.nf + 1) (f : Frs (LS s L) H H') : LRun D s H0 L0 es' ps (nf + 1) H' L' :=
  ⟨h0, h1.trans r.g, h2.trans r.fs, h3, h4, by rw [h8, r.nf], h5.trans r.past, h7.trans r.shelf, by rw [h6]; exact r.fut, r.frs f⟩
theorem inB2 {a b c d x z : Int} : inBx a b c d x z = true ↔ (a ≤ x ∧ x ≤ c) ∧ b ≤ z ∧ z ≤ d := by
  unfold inBx
  simp only [Bool.and_eq_true, decide_eq_true_eq]
theorem hgt_raise (bs : Int → Int → Int) (es : List Ed) (a b c d n m x z : Int) : hgt bs (es ++ [⟨"raise", a, b, c, d, n, m⟩]) x z = if (a ≤ x ∧ x ≤ c) ∧ b ≤ z ∧ z ≤ d then hgt bs es x z + n else hgt bs es x z := by
  rw [hgt_snoc]
  simp only [inB2]
  have h1 : ¬ (("raise" : Str) = "set") := by decide
  have h2 : ¬ (("raise" : Str) = "copy") := by decide
  simp only [ap1, if_neg h1, if_neg h2, if_pos]
theorem hgt_least (bs : Int → Int → Int) (es : List Ed) (a b c d n m x z : Int) : hgt bs (es ++ [⟨"least", a, b, c, d, n, m⟩]) x z = if (a ≤ x ∧ x ≤ c) ∧ b ≤ z ∧ z ≤ d then (if n > hgt bs es x z then n else hgt bs es x z) else hgt bs es x z := by
  rw [hgt_snoc]
  simp only [inB2]
  have h1 : ¬ (("least" : Str) = "set") := by decide
  have h2 : ¬ (("least" : Str) = "copy") := by decide
  have h3 : ¬ (("least" : Str) = "raise") := by decide
  simp only [ap1, if_neg h1, if_neg h2, if_neg h3, if_pos]
theorem hgt_most (bs : Int → Int → Int) (es : List Ed) (a b c d n m x z : Int) : hgt bs (es ++ [⟨"most", a, b, c, d, n, m⟩]) x z = if (a ≤ x ∧ x ≤ c) ∧ b ≤ z ∧ z ≤ d then (if n < hgt bs es x z then n else hgt bs es x z) else hgt bs es x z := by
  rw [hgt_snoc]
  simp only [inB2]
  have h1 : ¬ (("most" : Str) = "set") := by decide
  have h2 : ¬ (("most" : Str) = "copy") := by decide
  have h3 : ¬ (("most" : Str) = "raise") := by decide
  have h4 : ¬ (("most" : Str) = "least") := by decide
  simp only [ap1, if_neg h1, if_neg h2, if_neg h3, if_neg h4]
theorem raise_all {bs : Int → Int → Int} {es : List Ed} {a b c d n : Int} : ∀ p, KwM.inB ⟨a, b, c, d⟩ p → hF (hgt bs (es ++ [⟨"raise", a, b, c, d, n, 0⟩])) p = hF (hgt bs es) p + n := fun p hp => by
  unfold KwM.inB at hp
  simp only at hp
  show hgt bs _ p.1 p.2 = hgt bs es p.1 p.2 + n
  rw [hgt_raise, if_pos (by omega)]
abbrev wallE (a b c d n : Int) : List Ed := [⟨"least", a, b, c, b, n, 0⟩, ⟨"least", a, d, c, d, n, 0⟩, ⟨"least", a, b, a, d, n, 0⟩, ⟨"least", c, b, c, d, n, 0⟩]
theorem wall_h {bs : Int → Int → Int} {es : List Ed} {a b c d n : Int} {p : KwM.Pt} (hp : KwM.inB ⟨a, b, c, d⟩ p) : (KwM.edge ⟨a, b, c, d⟩ p → hF (hgt bs (es ++ wallE a b c d n)) p = max (hF (hgt bs es) p) n) ∧ (¬ KwM.edge ⟨a, b, c, d⟩ p → hF (hgt bs (es ++ wallE a b c d n)) p = hF (hgt bs es) p) := by
  unfold KwM.inB at hp
  unfold KwM.edge
  simp only at hp ⊢
  have e : es ++ wallE a b c d n = (((es ++ [⟨"least", a, b, c, b, n, 0⟩]) ++ [⟨"least", a, d, c, d, n, 0⟩]) ++ [⟨"least", a, b, a, d, n, 0⟩]) ++ [⟨"least", c, b, c, d, n, 0⟩] := by simp
  show (_ → hgt bs _ p.1 p.2 = max (hgt bs es p.1 p.2) n) ∧ (_ → hgt bs _ p.1 p.2 = hgt bs es p.1 p.2)
  rw [e, hgt_least, hgt_least, hgt_least, hgt_least]
  generalize hgt bs es p.1 p.2 = v
  have k : ∀ (P : Prop) [Decidable P] (u : Int), (if P then (if n > u then n else u) else u) = if P then max u n else u := fun P _ u => by
    by_cases h : P
    · simp only [if_pos h]
      split <;> omega
    · simp only [if_neg h]
  simp only [k]
  constructor
  · intro h
    split <;> split <;> split <;> split <;> omega
  · intro h
    rw [if_neg (by omega), if_neg (by omega), if_neg (by omega), if_neg (by omega)]
theorem ditch_h {bs : Int → Int → Int} {es : List Ed} {a b c d x z n : Int} : ∀ p, KwM.inB ⟨a, b, c, d⟩ p → p.2 = z → p.1 ≤ x → hF (hgt bs (es ++ [⟨"most", a, z, x, z, n, 0⟩])) p = min (hF (hgt bs es) p) n := fun p hp h1 h2 => by
  unfold KwM.inB at hp
  simp only at hp
  show hgt bs _ p.1 p.2 = min (hgt bs es p.1 p.2) n
  rw [hgt_most, if_pos (by omega)]
  split <;> omega

end Kw
set_option Elab.async false
set_option linter.all false
set_option maxRecDepth 100000
set_option maxHeartbeats 2000000
namespace Kw
open PySem PySem.Spec PyProof.Rows L2
local macro_rules | `(tactic| walk_at "in") => `(tactic| repeat (first | assumption | refine in_new (by assumption) ?_ | refine in_ex (by assumption) ?_))
local macro_rules | `(tactic| walk_at "lk") => `(tactic| first | exact lk_laid _ | exact lk_code _ | exact lk_grain _ | exact lk_past _ | exact lk_future _ | exact lk_shelf _ | exact lk_last _)
local macro_rules | `(tactic| walk_at "tp") => `(tactic| repeat (first | assumption | exact tp_up | refine tp_new (by assumption) ?_ | refine tp_lst (by assumption) ?_ | refine tp_ex (by assumption) ?_ | refine tp_mv (by assumption) ?_))
local macro_rules | `(tactic| walk_at "sq") => `(tactic| repeat (first | assumption | exact sq_up | exact sl_up | exact tp_sq (by assumption) | exact Evl.sq_of (by assumption) | refine sq_new (by assumption) ?_ | refine sl_new (by assumption) ?_ | refine sq_lst (by assumption) ?_ | refine sq_ex (by assumption) ?_ | refine sl_ex (by assumption) ?_ | refine sq_mv (by assumption) ?_))
local macro_rules | `(tactic| walk_at "ex") => `(tactic| repeat (first | assumption | exact Ex.rfl' _ | refine Ex.nw ?_ (by assumption) | refine Ex.tr ?_ (by assumption)))
local macro_rules | `(tactic| walk_at "cond") => `(tactic| first | decide | exact Or.inl ⟨by omega, by omega⟩ | exact Or.inr ⟨by omega, by omega⟩ | exact ⟨by omega, by omega⟩ | omega)
local macro_rules | `(tactic| walk_at "rd1") => `(tactic| first
  | refine ⟨_, rfl, ?_⟩
  | refine ⟨_, _, rfl, rfl, ?_⟩
  | refine ⟨_, _, rfl, ?_⟩
  | refine ⟨rfl, ?_⟩
  | refine ⟨_, _, _, rfl, ?_⟩
  | (refine' ⟨_, _, _, _, rfl, rfl, ?h, ?ha, ?q⟩; (case h => walk_at "sq"); (case ha => first | assumption | rfl | exact at_c0 _ _ | exact at_c1 _ _ _ | exact at_c2 _ _ _ _ | (refine at_vals ?_; omega) | exact atI_nat (by assumption)))
  | refine ⟨_, _, _, _, rfl, ?_⟩
  | refine ⟨_, _, _, _, _, rfl, ?_⟩
  | (refine' ⟨_, _, rfl, ?h, ?ha, ?q⟩; (case h => walk_at "sq"); (case ha => first | rfl | exact Nat.le_of_ble_eq_true rfl))
  | refine Or.inr ⟨_, rfl, ?_⟩
  | (refine' ⟨_, _, rfl, Or.inr ?h, ?q⟩; (case h => walk_at "sq"))
  | (refine' ⟨_, _, rfl, Or.inl ?h, ?q⟩; (case h => walk_at "sq"))
  | refine ⟨_, _, _, _, _, rfl, .ty _, .base (.int _), kit_ty kit_ii, ?_⟩
  | refine ⟨_, _, _, _, _, rfl, .ty _, .base (.int _), kit_ty kit_ib, ?_⟩
  | refine ⟨_, _, _, _, _, rfl, .ty _, .base (.str _), kit_ty kit_ss, ?_⟩
  | refine ⟨_, _, _, _, _, rfl, .ty _, .base (.tup (by assumption)), kit_ty kit_tt, ?_⟩
  | with_reducible refine iteT ?_
  | with_reducible refine iteF ?_
  | refine ite_yes (by first | decide | omega) ?_
  | refine ite_no (by first | decide | omega) ?_
  | refine ite_no (fun z => absurd (V.str.inj z) (by assumption)) ?_
  | refine ite_no (fun z => absurd (V.int.inj z) (by omega)) ?_
  | refine ite_yes (congrArg V.int (by omega)) ?_
  | refine ite_nyes (by first | decide | omega) ?_
  | refine ite_nno (by first | decide | omega) ?_
  | (refine' And.intro (Or.inl ⟨rfl, _, ?h⟩) ?q; (case h => first | exact SqL.of (by first | assumption | exact upd_same) | walk_at "sq"))
  | (refine' And.intro ?h ?q; (case h => exact Evl.sz_of (Nat.le_of_ble_eq_true rfl)))
  | refine fun p (hp : (_ : Hp) p = none) => ?_
  | (refine' ⟨_, _, rfl, Or.inr ?h, rfl, rfl, ?q⟩; (case h => walk_at "sq"))
  | (refine' ⟨_, _, rfl, Or.inl ?h, rfl, rfl, ?q⟩; (case h => walk_at "sq"))
  | (refine' ⟨_, _, _, _, _, rfl, ?h, ?c, ?n, ?l, ?q⟩; (case h => walk_at "in"); (case c => assumption); (case n => assumption); (case l => walk_at "lk"))
  | (refine' ⟨_, _, _, rfl, ?h, ?l, ?q⟩; (case h => walk_at "in"); (case l => exact lk_none (by decide) _))
  | (refine' And.intro ?h ?q; (case h => walk_at "cond")))
local macro_rules | `(tactic| walk_at "rd") => `(tactic| repeat walk_at "rd1")
local macro_rules | `(tactic| walk_at "rs") => `(tactic| repeat' (first | walk_at "rd1" | refine ite2d (fun h => ?_) (fun h => ?_) | refine ite2n (fun h => ?_) (fun h => ?_) | refine ite2 (fun h => ?_) (fun h => ?_)))
local macro_rules | `(tactic| walk_at "pu") => `(tactic| repeat (first | assumption | refine purse_new ?_ (by assumption)))
local macro_rules | `(tactic| walk_at "mv") => `(tactic| repeat (first | assumption | exact Mv.rf _ _ | refine Mv.nw ?_ (by assumption) | refine Mv.tr ?_ (by assumption)))

variable {P : Program} {w : World} {K : PySem.W.Frag} {mg : Str → Option Value} {base : Heap} {D : Ad}
/-! ### _law_levels_right -/
theorem so_dry : PyData.strOk "dry" = true := by decide +kernel
theorem so_holds : PyData.strOk "holds" = true := by decide +kernel
def spLR : Ad → Sp := fun D vs H Q _ => ∃ (s q g : Addr) (L : Lnd) (a b c d x z : Int), vs = [.ref s, .ref q, .ref g] ∧ LandAt D H s L ∧ Tp H q [.int a, .int b, .int c, .int d] ∧ Tp H g [.int x, .int z] ∧ BxOk a b c d ∧ inBx a b c d x z = true ∧ ∀ H', Ex H H' → Q (.bl true) H'
theorem h_levels (F : DefAt K mg "_law_levels_right" s__law_levels_right [] []) (T : Txt K w mg D) (G_least_level : Has P w K mg base 28 "least_level" (spLeast K D) []) (G_poured : Has P w K mg base 28 "poured" (spPoured K D) []) (G_height : HasM P w K mg base 26 D.C "height" (spHAt D)) : Has P w K mg base 29 "_law_levels_right" (spLR D) [] := by
  refine has_of F sc__law_levels_right (fun _ _ _ _ _ _ us hl => match us, hl with | [_, _, _], _ => rfl) ?_ ?_
  · rintro _ _ _ _ ⟨_, _, _, _, _, _, _, _, _, _, rfl, _⟩; rfl
  · rintro f cdv A outer s0 H vs Q E hr ⟨s, q, g, L, a, b, c, d, x, z, rfl, hL, hq, hg, hb, hin, kk⟩
    have hu := hu_of hr
    refine ⟨_, pss_cons (ps_set (i := 3) sc__law_levels_right.nd rfl (Or.inl rfl) (pe_c G_least_level (hr.mono (by decide)) (by rfl) (pa_cons (pv 0) (pa_cons (pv 1) (pa_cons (pv 2) (pa_nil))))))
      (pss_cons (ps_set (i := 4) sc__law_levels_right.nd rfl (Or.inl rfl) (pe_m G_height (hr.mono (by decide)) T.cl (pv 0) (pa_cons (pe_ix ix_tup (pv 2) (pe_int) (fun _ _ => rfl)) (pa_cons (pe_ix ix_tup (pv 2) (pe_int) (fun _ _ => rfl)) (pa_nil)))))
      (pss_cons (ps_if (PW.pt (pw_or (pt_cmpR op_gt (pe_callB call_abs (by rfl) T.f_abs bt_abs (pa_cons (pv 3) (pa_nil))) (pe_int) (nomark _)) (pw_or1 (pt_cmpR op_gt (pe_callB call_abs (by rfl) T.f_abs bt_abs (pa_cons (pv 4) (pa_nil))) (pe_int) (nomark _))))) (pss_one (ps_ret (pe_bl))) (pss_nil))
      (pss_cons (ps_if (PW.pt (pw_or (pt_cmpR op_lt (pv 3) (pv 4) (nomark _)) (pw_or1 (pt_cmpR (op_neD hr.units) (pe_c G_poured (hr.mono (by decide)) (by rfl) (pa_cons (pv 0) (pa_cons (pv 1) (pa_cons (pv 2) (pa_cons (pv 4) (pa_nil)))))) (pe_tup (pa_cons (pe_str) (pa_nil))) (nomark _))))) (pss_one (ps_ret (pe_bl))) (pss_nil))
      (pss_cons (ps_if (pt_cmpR op_ne (pe_ix ix_tup (pe_c G_poured (hr.mono (by decide)) (by rfl) (pa_cons (pv 0) (pa_cons (pv 1) (pa_cons (pv 2) (pa_cons (pe_op op_add (pv 3) (pe_int)) (pa_nil)))))) (pe_int) (fun _ _ => rfl)) (pe_str) (nomark _)) (pss_one (ps_ret (pe_bl))) (pss_nil))
      (pss_cons (ps_set (i := 5) sc__law_levels_right.nd rfl (Or.inl rfl) (pe_lst (pa_nil)))
      (pss_cons (ps_set (i := 6) sc__law_levels_right.nd rfl (Or.inl rfl) (pe_callB (call_max2 rfl) (by rfl) T.f_max bt_max (pa_cons (pe_int) (pa_cons (pe_op op_fdiv (pe_op op_sub (pv 3) (pv 4)) (pe_int)) (pa_nil)))))
      (pss_cons (ps_for PassesOwn.never rfl (pi_list (pe_op op_cat (pe_listRg3 rfl (by rfl) T.f_list (by rfl) T.f_range (pa_cons (pe_op op_add (pv 4) (pe_int)) (pa_cons (pv 3) (pa_cons (pv 6) (pa_nil))))) (pe_op op_rep (pe_lst (pa_cons (pv 3) (pa_nil))) (pe_callTy call_int1 (by rfl) T.f_int bt_int (pa_cons (pe_cmpR op_gt (pv 3) (pv 4) (nomark _)) (pa_nil)))))) (pg_name (i := 7) sc__law_levels_right.nd rfl (Or.inl rfl)) (pss_cons (ps_set (i := 8) sc__law_levels_right.nd rfl (Or.inr rfl) (pe_c G_poured (hr.mono (by decide)) (by rfl) (pa_cons (pv 0) (pa_cons (pv 1) (pa_cons (pv 2) (pa_cons (pv 7) (pa_nil)))))))
      (pss_cons (ps_if (PW.pt (pw_or (pt_cmpR op_ne (pe_ix ix_tup (pv 8) (pe_int) (fun _ _ => rfl)) (pe_str) (nomark _)) (pw_or1 (pt_cmpR (op_neD hr.units) (pe_lc (own := [("_law_spot_here", 9)]) (g := (gName 9)) rfl sc__law_levels_right.nd (pi_list (pv 5)) (blkOk_by (own := [("_law_spot_here", 9)]) (N := nm__law_levels_right) (sc := defScope s__law_levels_right) (by decide +kernel)) (fun _ _ _ _ _ => pg_name (i := 9) sc__law_levels_right.nd rfl (Or.inl rfl)) (fun _ _ _ _ _ => pts_one (pt_cmpR (show OpR _ _ (rNotInD K) from op_notInD (hu65 hr)) (pv 9) (pe_ix (show IxR _ (rIxT K) from ix_tup) (pv 8) (pe_int) (fun _ _ => rfl)) rfl)) (fun _ _ _ _ _ => pv 9)) (pe_lst (pa_nil)) (nomark _))))) (pss_one (ps_ret (pe_bl))) (pss_nil))
      (pss_one (ps_set (i := 5) sc__law_levels_right.nd rfl (Or.inl rfl) (pe_ix ix_tup (pv 8) (pe_int) (fun _ _ => rfl)))))))
      (pss_cons (ps_for PassesOwn.never rfl (pi_list (pe_slice sl_list (pv 5) (po_none) (po_some (pe_int)))) (pg_name (i := 9) sc__law_levels_right.nd rfl (Or.inl rfl)) (pss_one (ps_if (PW.pt (pw_or (pt_cmpR op_ne (pe_c G_least_level (hr.mono (by decide)) (by rfl) (pa_cons (pv 0) (pa_cons (pv 1) (pa_cons (pv 9) (pa_nil))))) (pv 3) (nomark _)) (pw_or1 (pt_cmpR (op_neD hr.units) (pe_c G_poured (hr.mono (by decide)) (by rfl) (pa_cons (pv 0) (pa_cons (pv 1) (pa_cons (pv 9) (pa_cons (pv 3) (pa_nil)))))) (pe_tup (pa_cons (pe_str) (pa_cons (pv 5) (pa_nil)))) (nomark _))))) (pss_one (ps_ret (pe_bl))) (pss_nil))))
      (pss_one (ps_ret (pe_cmpR op_eq (pe_ix ix_tup (pe_c G_poured (hr.mono (by decide)) (by rfl) (pa_cons (pv 0) (pa_cons (pv 1) (pa_cons (pv 2) (pa_cons (pe_op op_add (pv 3) (pe_int)) (pa_nil)))))) (pe_int) (fun _ _ => rfl)) (pe_str) (nomark _)))))))))))), ?_⟩
    have hsb : KwM.inB ⟨a, b, c, d⟩ (x, z) := in_iff.mp hin
    obtain ⟨⟨hi1, hi2⟩, hi3, hi4⟩ := inB2.mp hin
    have hb' := hb
    obtain ⟨hb1, hb2, hb3, hb4, hb5, hb6, hb7, hb8⟩ := hb'
    have hins := hL.ins
    walk_at "rd"
    refine ⟨s, q, g, L, a, b, c, d, x, z, rfl, hL, tp_sq hq, hg, hb, hin, fun H1 lv e1 hlv => ?_⟩
    have hL1 := hL.ex e1
    have hins1 := hL1.ins
    have hg1 := tp_ex e1 hg
    walk_at "rd"
    refine ⟨s, L, x, z, rfl, hL1, by omega, fun H2 e2 => ?_⟩
    have hL2 := hL1.ex e2
    have hins2 := hL2.ins
    have e12 := e1.tr e2
    have hsl : L.h x z ≤ lv := hlv.1
    walk_at "rd"
    refine ite2d (fun hc1 => ?_) (fun hc1 => ?_)
    · walk_at "rd"
      exact kk _ e12
    walk_at "rd"
    refine ite2d (fun hc2 => ?_) (fun hc2 => ?_)
    · walk_at "rd"
      exact kk _ e12
    have hlvb : -1000000000 ≤ lv ∧ lv ≤ 1000000000 := by split at hc1 <;> omega
    have hbsb : -1000000000 ≤ L.h x z ∧ L.h x z ≤ 1000000000 := by split at hc2 <;> omega
    clear hc1 hc2
    walk_at "rd"
    refine ⟨s, q, g, L, a, b, c, d, x, z, L.h x z, rfl, hL2, tp_sq (tp_ex e12 hq), tp_ex e12 hg, hb, hin, fun H3 t3 e3 _ ht3 => ?_, fun _ _ _ _ _ h => absurd h (Int.lt_irrefl _), fun _ _ _ _ h => absurd h (Int.lt_irrefl _)⟩
    walk_at "rd"
    rename_i p4 hp4
    have hd1 : Dat K (upd H3 p4 (.tup [.str "dry"])) 1 (.ref t3) (.tuple [.str "dry"]) := dat_1 (n := 0) (tp_new hp4 ht3) (dat_str so_dry)
    have hd2 : Dat K (upd H3 p4 (.tup [.str "dry"])) 1 (.ref p4) (.tuple [.str "dry"]) := dat_1 (n := 0) tp_up (dat_str so_dry)
    refine ⟨_, _, hd1.dp, hd2.dp, hd1.shp (by decide), hd2.shp (by decide), ?_⟩
    rw [show PyData.eqv (.tuple [.str "dry"]) (.tuple [.str "dry"]) = true by simp [PyData.eqv, PyData.eqvAll]]
    have e4 : Ex H (upd H3 p4 (.tup [.str "dry"])) := (e12.tr e3).nw hp4
    clear hd1 hd2
    generalize upd H3 p4 (.tup [.str "dry"]) = H4 at *
    walk_at "rd"
    refine ⟨s, q, g, L, a, b, c, d, x, z, lv + 1, rfl, hL.ex e4, tp_sq (tp_ex e4 hq), tp_ex e4 hg, hb, hin, fun _ _ _ h => absurd h (by omega), fun _ _ _ _ _ _ h => absurd (hlv.runs (by omega)) h, fun H5 t5 l5 e5 _ _ ht5 => ?_⟩
    walk_at "rd"
    rename_i p6 hp6
    have e6 : Ex H (upd H5 p6 (.lst [])) := (e4.tr e5).nw hp6
    generalize hst : (if (lv - L.h x z) / 5 > 1 then (lv - L.h x z) / 5 else 1) = st
    have hst1 : 0 < st ∧ st < 1073741824 ∧ lv - L.h x z ≤ 5 * st + 4 := by split at hst <;> omega
    clear hst
    obtain ⟨hst1, hst2, hst3⟩ := hst1
    obtain ⟨n, hn1, hn2, hn3⟩ := rgC3 hbsb.1 hsl hlvb.2 hst1 hst2 hst3
    refine ⟨_, _, _, n, rfl, hn1, by omega, fun p7 hp7 => ?_⟩
    walk_at "rd"
    rename_i p8 hp8
    have n78 : p7 ≠ p8 := ne_of_none upd_same hp8
    have hin8 : ([V.int lv] : List V).length = 1 := rfl
    refine ⟨p8, _, _, rfl, rfl, upd_same, by split <;> omega, by split <;> omega, ?_, fun p9 hp9 => ?_⟩
    · rw [hin8, sizeLine_eq]
      split <;> simp
    have n89 : p8 ≠ p9 := ne_of_none upd_same hp9
    have n79 : p7 ≠ p9 := ne_of_none (by rw [upd_ne n78]; exact upd_same) hp9
    have hys : rgC (L.h x z + 1) st n ++ (List.replicate (if decide (lv > L.h x z) = true then (1 : Int) else 0).toNat [V.int lv]).flatten = (lvls (L.h x z) lv st n).map V.int := by
      rw [lvls_V]
      congr 1
      by_cases c1 : lv > L.h x z
      · rw [decide_eq_true c1, if_pos rfl, if_pos c1]; rfl
      · rw [decide_eq_false c1, if_neg Bool.false_ne_true, if_neg c1]; rfl
    refine ⟨p7, p9, _, _, rfl, rfl, by rw [upd_ne n79, upd_ne n78]; exact upd_same, upd_same, ?_, fun p10 hp10 => ?_⟩
    · rw [← List.length_append, hys, List.length_map, sizeLine_eq]
      have := lvls_len (b := L.h x z) (l := lv) (st := st) (n := n)
      omega
    rw [hys]
    clear hys
    have e10 : Ex H (upd (upd (upd (upd (upd H5 p6 (.lst [])) p7 (.lst (rgC (L.h x z + 1) st n))) p8 (.lst [.int lv])) p9 (.lst (List.replicate (if decide (lv > L.h x z) = true then (1 : Int) else 0).toNat [V.int lv]).flatten)) p10 (.lst ((lvls (L.h x z) lv st n).map V.int))) := (((e6.nw hp7).nw hp8).nw hp9).nw hp10
    have h6A := ((((Ex.rfl' (upd H5 p6 (.lst []))).nw (o := .lst (rgC (L.h x z + 1) st n)) hp7).nw (o := .lst [.int lv]) hp8).nw (o := .lst (List.replicate (if decide (lv > L.h x z) = true then (1 : Int) else 0).toNat [V.int lv]).flatten) hp9).nw (o := .lst ((lvls (L.h x z) lv st n).map V.int)) hp10 p6 _ upd_same
    have h10A : (upd (upd (upd (upd (upd H5 p6 (.lst [])) p7 (.lst (rgC (L.h x z + 1) st n))) p8 (.lst [.int lv])) p9 (.lst (List.replicate (if decide (lv > L.h x z) = true then (1 : Int) else 0).toNat [V.int lv]).flatten)) p10 (.lst ((lvls (L.h x z) lv st n).map V.int))) p10 = some (.lst ((lvls (L.h x z) lv st n).map V.int)) := upd_same
    have hym : ∀ y ∈ lvls (L.h x z) lv st n, L.h x z < y ∧ y ≤ lv := fun y hy => lvls_mem hst1 hn3 hy
    have hyr := lvls_rise (b := L.h x z) (l := lv) hst1 hn3
    have hyl : L.h x z < lv → (lvls (L.h x z) lv st n)[(lvls (L.h x z) lv st n).length - 1]? = some lv := fun h => lvls_last h
    have hyn : ¬ L.h x z < lv → lvls (L.h x z) lv st n = [] := fun h => lvls_none h hn3 hst1
    clear hn3 hn1
    generalize lvls (L.h x z) lv st n = ys at *
    generalize (upd (upd (upd (upd (upd H5 p6 (.lst [])) p7 (.lst (rgC (L.h x z + 1) st n))) p8 (.lst [.int lv])) p9 (.lst (List.replicate (if decide (lv > L.h x z) = true then (1 : Int) else 0).toNat [V.int lv]).flatten)) p10 (.lst (ys.map V.int))) = HA at *
    clear hp7 hp8 hp9 hp10
    refine ⟨p10, rfl, ⟨_, Evl.sq_of h10A⟩, ?_⟩
    refine for_list (K := K) (a := p10) (xs := ys.map V.int) (fun i σ H' => Here (∃ (l : Addr) (rs : List (Int × Int)) (x7 x8 x9 : Option V), Ex H H' ∧ H' p10 = some (.lst (ys.map V.int)) ∧ RgL H' l rs ∧ rs.Nodup ∧ rs.Pairwise LeP ∧ rs.length ≤ 1000 ∧ (∀ (j : Nat) (y : Int), i ≤ j → ys[j]? = some y → ∀ p ∈ rs, KwM.Rch (hF L.h) ⟨a, b, c, d⟩ y (x, z) p) ∧ Here ((i = 0 ∧ rs = []) ∨ ∃ y, ys[i - 1]? = some y ∧ 0 < i ∧ ∀ p, p ∈ rs ↔ KwM.Rch (hF L.h) ⟨a, b, c, d⟩ y (x, z) p) ∧
      σ = [some (.ref s), some (.ref q), some (.ref g), some (.int lv), some (.int (L.h x z)), some (.ref l), some (.int st), x7, x8, x9])) (.it ⟨p6, [], none, none, none, e10, h10A, ⟨[], h6A, .nil⟩, List.nodup_nil, .nil, by simp, fun _ _ _ _ p hp => (nomatch hp), .it (.inl ⟨rfl, rfl⟩), rfl⟩) (fun i σ H' _ hh => by obtain ⟨_, _, _, _, _, _, z, _⟩ := hh.get; exact Evl.sq_of z) ?_ ?_
    · intro i u σ H' hu' hh
      obtain ⟨l, rs, x7, x8, x9, he, h10, hrg, hnd, hpw, hrl, hsub, hlast, rfl⟩ := hh.get
      obtain ⟨y, hyi, rfl⟩ : ∃ y, ys[i]? = some y ∧ u = V.int y := by
        rw [List.getElem?_map] at hu'
        cases h2 : ys[i]? with
        | none => rw [h2] at hu'; cases hu'
        | some y => rw [h2] at hu'; exact ⟨y, rfl, (Option.some.inj hu').symm⟩
      obtain ⟨hy1, hy2⟩ := hym y (List.mem_of_getElem? hyi)
      walk_at "rd"
      refine ⟨s, q, g, L, a, b, c, d, x, z, y, rfl, hL.ex he, tp_sq (tp_ex he hq), tp_ex he hg, hb, hin, fun _ _ _ h => absurd h (by omega), fun H7 t7 l7 rs7 e7 _ _ ht7 hrg7 hnd7 hpw7 hm7 hl7 => ?_, fun _ _ _ _ _ h _ => absurd h (hlv.dry_not hy1 hy2)⟩
      walk_at "rd"
      obtain ⟨us, hus, hup⟩ := hrg.ex e7
      obtain ⟨us7, hus7, hup7⟩ := hrg7
      have hul := pair_len hup
      refine ⟨⟨_, Evl.sq_of hus⟩, ?_⟩
      intro dd hdd
      refine lw_list (K := K) (a := l) (xs := us) (fun j H'' => Here (Ex H7 H'' ∧ H'' dd = some (.lst []))) (.it ⟨Ex.nw (Ex.rfl' _) hdd, upd_same⟩) (fun j H'' _ hh2 => sl_ex hh2.get.1 (Evl.sq_of hus)) ?_ ?_
      · intro j u H'' hu2 hh2
        obtain ⟨he2, hdl⟩ := hh2.get
        obtain ⟨p, hpj, r, rfl, hr1⟩ := pair_get hup hu2
        have ht7' := tp_ex he2 ht7
        have hr1' := tp_ex he2 hr1
        have hmem : p ∈ rs7 := (hm7 p).mpr (hsub i y (Nat.le_refl _) hyi p (List.mem_of_getElem? hpj))
        walk_at "rd"
        have hdp := dat_pt (K := K) hr1'
        have hdl7 := (dat_pts (K := K) hus7 hup7).mono he2
        refine ⟨dPt p, rs7.map dPt, hdp.dp, hdl7.dp, hdp.shp (by decide), hdl7.shp (by decide), ?_⟩
        rw [any_pts, decide_eq_true hmem]
        walk_at "rd"
        exact .it ⟨he2, hdl⟩
      · intro H'' hh2
        obtain ⟨he2, hdl⟩ := hh2.get
        walk_at "rd"
        rename_i p12 hp12
        refine ⟨.list [], .list [], .lst (sl_new hp12 (Evl.sq_of hdl)) .nil, .lst sl_up .nil, rfl, rfl, ?_⟩
        rw [show PyData.eqv (.list []) (.list []) = true by simp [PyData.eqv, PyData.eqvAll]]
        have ht7' := tp_new (o := .lst []) hp12 (tp_ex he2 ht7)
        walk_at "rd"
        have e7b : Ex H7 (upd H'' p12 (.lst [])) := he2.nw hp12
        refine .it ⟨l7, rs7, _, _, _, (he.tr e7).tr e7b, e7b _ _ (e7 _ _ h10), ⟨us7, e7b _ _ hus7, past_rg (.ex e7b) hup7⟩, hnd7, hpw7, hl7, fun j y' hj hyj p hp => ?_, .it (.inr ⟨y, by rw [Nat.add_sub_cancel]; exact hyi, by omega, hm7⟩), rfl⟩
        refine ((hm7 p).mp hp).mono ?_
        have hjl := (List.getElem?_eq_some_iff.mp hyj)
        have hil := (List.getElem?_eq_some_iff.mp hyi)
        obtain ⟨hj1, hj2⟩ := hjl
        obtain ⟨hi1', hi2'⟩ := hil
        have := (List.pairwise_iff_getElem.mp hyr) i j hi1' hj1 (by omega)
        omega
    · intro σ H' hh
      obtain ⟨l, rs, x7, x8, x9, he, h10, hrg, hnd, hpw, hrl, hsub, hlast, rfl⟩ := hh.get
      have hfin : (¬ L.h x z < lv ∧ rs = []) ∨ (L.h x z < lv ∧ ∀ p, p ∈ rs ↔ KwM.Rch (hF L.h) ⟨a, b, c, d⟩ lv (x, z) p) := by
        by_cases c1 : L.h x z < lv
        · refine .inr ⟨c1, ?_⟩
          have h2 := hyl c1
          rw [List.length_map] at hlast
          rcases hlast.get with ⟨h0, _⟩ | ⟨y, hy, _, hm⟩
          · rw [h0] at h2
            have : ys = [] := List.eq_nil_of_length_eq_zero h0
            rw [this] at h2; cases h2
          · rw [h2] at hy
            cases hy
            exact hm
        · refine .inl ⟨c1, ?_⟩
          have h2 := hyn c1
          subst h2
          rcases hlast.get with ⟨_, h⟩ | ⟨y, hy, h0, _⟩
          · exact h
          · exact absurd h0 (by simp)
      clear hlast hsub hh
      obtain ⟨us, hus, hup⟩ := hrg
      have hsl1 := Evl.sq_of (K := K) hus
      walk_at "rd"
      refine ⟨l, us, rfl, hsl1, fun p11 hp11 => ?_⟩
      have hcut : ∀ u ∈ cutV us none (some 4), u ∈ us := fun u hu => by
        unfold cutV at hu
        exact List.mem_of_mem_drop (List.mem_of_mem_take hu)
      have eB : Ex H (upd H' p11 (.lst (cutV us none (some 4)))) := he.nw hp11
      have husB : (upd H' p11 (.lst (cutV us none (some 4)))) l = some (.lst us) := by rw [upd_ne (ne_of_none hus hp11)]; exact hus
      have hupB : PtsP (upd H' p11 (.lst (cutV us none (some 4)))) us rs := past_rg (fun _ _ h => tp_new hp11 h) hup
      have h11B : (upd H' p11 (.lst (cutV us none (some 4)))) p11 = some (.lst (cutV us none (some 4))) := upd_same
      generalize upd H' p11 (.lst (cutV us none (some 4))) = HB at *
      refine ⟨p11, rfl, ⟨_, Evl.sq_of h11B⟩, ?_⟩
      refine for_list (K := K) (a := p11) (xs := cutV us none (some 4)) (fun i σ H'' => Here (∃ (x7 x8 x9 : Option V), Ex HB H'' ∧ σ = [some (.ref s), some (.ref q), some (.ref g), some (.int lv), some (.int (L.h x z)), some (.ref l), some (.int st), x7, x8, x9])) (.it ⟨_, _, _, Ex.rfl' _, rfl⟩) (fun i σ H'' _ hh2 => by obtain ⟨_, _, _, z, _⟩ := hh2.get; exact sl_ex z (Evl.sq_of h11B)) ?_ ?_
      · intro i u σ H'' hu2 hh2
        obtain ⟨y7, y8, y9, he2, rfl⟩ := hh2.get
        obtain ⟨j, hj, ej⟩ := List.mem_iff_getElem.mp (hcut u (List.mem_of_getElem? hu2))
        obtain ⟨p, hpj, r, rfl, hr1⟩ := pair_get hupB (show us[j]? = some u by rw [List.getElem?_eq_getElem hj, ej])
        have hpm := List.mem_of_getElem? hpj
        rcases hfin with ⟨_, hnil⟩ | ⟨hlt, hm⟩
        · rw [hnil] at hpm; cases hpm
        have hrch := (hm p).mp hpm
        obtain ⟨htg, htm⟩ := hlv.together hsb hlt hrch
        have hpin : inBx a b c d p.1 p.2 = true := in_iff.mpr (hrch.inb hsb)
        have hplow : L.h p.1 p.2 < lv := hrch.low hlt
        have eC := eB.tr he2
        have hr2 := tp_ex he2 hr1
        walk_at "rd"
        refine ⟨s, q, r, L, a, b, c, d, p.1, p.2, rfl, hL.ex eC, tp_sq (tp_ex eC hq), hr2, hb, hpin, fun H5' lv5 e5' hlv5 => ?_⟩
        obtain rfl : lv5 = lv := hlv5.uniq htg
        walk_at "rd"
        refine ite_nno rfl ?_
        walk_at "rd"
        have eD := eC.tr e5'
        refine ⟨s, q, r, L, a, b, c, d, p.1, p.2, lv5, rfl, hL.ex eD, tp_sq (tp_ex eD hq), tp_ex e5' hr2, hb, hpin, fun _ _ _ h => absurd h (by omega), fun H6 t6 l6 rs6 e6' _ _ ht6 hrg6 hnd6 hpw6 hm6 hl6 => ?_, fun _ _ _ _ _ h _ => absurd h (htg.dry_not hplow (Int.le_refl _))⟩
        obtain rfl : rs6 = rs := pts_uniq hnd6 hnd hpw6 hpw fun p' => by rw [hm6, htm, hm]
        obtain ⟨us6, hus6, hup6⟩ := hrg6
        walk_at "rd"
        rename_i p12 hp12
        have eE : Ex HB H6 := (he2.tr e5').tr e6'
        have eF : Ex H6 (upd H6 p12 (.tup [.str "holds", .ref l])) := (Ex.rfl' _).nw hp12
        have hA1 : Dat K (upd H6 p12 (.tup [.str "holds", .ref l])) 3 (.ref t6) (.tuple [.str "holds", .list (rs6.map dPt)]) := dat_2 (n := 2) (tp_ex eF ht6) (dat_str so_holds) ((dat_pts hus6 hup6).mono eF)
        have hA2 : Dat K (upd H6 p12 (.tup [.str "holds", .ref l])) 3 (.ref p12) (.tuple [.str "holds", .list (rs6.map dPt)]) := dat_2 (n := 2) tp_up (dat_str so_holds) (((dat_pts husB hupB).mono eE).mono eF)
        refine ⟨_, _, hA1.dp, hA2.dp, hA1.shp (by decide), hA2.shp (by decide), ?_⟩
        rw [show PyData.eqv (.tuple [.str "holds", .list (rs6.map dPt)]) (.tuple [.str "holds", .list (rs6.map dPt)]) = true by simp [PyData.eqv, PyData.eqvAll, eqvAll_pts]]
        walk_at "rd"
        exact .it ⟨_, _, _, eE.tr eF, rfl⟩
      · intro σ H'' hh2
        obtain ⟨y7, y8, y9, he2, rfl⟩ := hh2.get
        have eC := eB.tr he2
        walk_at "rd"
        refine ⟨s, q, g, L, a, b, c, d, x, z, lv + 1000, rfl, hL.ex eC, tp_sq (tp_ex eC hq), tp_ex eC hg, hb, hin, fun _ _ _ h => absurd h (by omega), fun _ _ _ _ _ _ h => absurd (hlv.runs (by omega)) h, fun H8 t8 l8 e8 _ _ ht8 => ?_⟩
        walk_at "rd"
        exact qb (kk _ (eC.tr e8)) (decide_eq_true rfl).symm

end Kw
set_option Elab.async false
set_option linter.all false
set_option maxRecDepth 100000
set_option maxHeartbeats 2000000
namespace Kw
open PySem PySem.Spec PyProof.Rows L2
local macro_rules | `(tactic| walk_at "in") => `(tactic| repeat (first | assumption | refine in_new (by assumption) ?_ | refine in_ex (by assumption) ?_))
local macro_rules | `(tactic| walk_at "lk") => `(tactic| first | exact lk_laid _ | exact lk_code _ | exact lk_grain _ | exact lk_past _ | exact lk_future _ | exact lk_shelf _ | exact lk_last _)
local macro_rules | `(tactic| walk_at "tp") => `(tactic| repeat (first | assumption | exact tp_up | refine tp_new (by assumption) ?_ | refine tp_lst (by assumption) ?_ | refine tp_ex (by assumption) ?_ | refine tp_mv (by assumption) ?_))
local macro_rules | `(tactic| walk_at "sq") => `(tactic| repeat (first | assumption | exact sq_up | exact sl_up | exact tp_sq (by assumption) | exact Evl.sq_of (by assumption) | refine sq_new (by assumption) ?_ | refine sl_new (by assumption) ?_ | refine sq_lst (by assumption) ?_ | refine sq_ex (by assumption) ?_ | refine sl_ex (by assumption) ?_ | refine sq_mv (by assumption) ?_))
local macro_rules | `(tactic| walk_at "ex") => `(tactic| repeat (first | assumption | exact Ex.rfl' _ | refine Ex.nw ?_ (by assumption) | refine Ex.tr ?_ (by assumption)))
local macro_rules | `(tactic| walk_at "cond") => `(tactic| first | decide | exact Or.inl ⟨by omega, by omega⟩ | exact Or.inr ⟨by omega, by omega⟩ | exact ⟨by omega, by omega⟩ | omega)
local macro_rules | `(tactic| walk_at "rd1") => `(tactic| first
  | refine ⟨_, rfl, ?_⟩
  | refine ⟨_, _, rfl, rfl, ?_⟩
  | refine ⟨_, _, rfl, ?_⟩
  | refine ⟨rfl, ?_⟩
  | refine ⟨_, _, _, rfl, ?_⟩
  | (refine' ⟨_, _, _, _, rfl, rfl, ?h, ?ha, ?q⟩; (case h => walk_at "sq"); (case ha => first | assumption | rfl | exact at_c0 _ _ | exact at_c1 _ _ _ | exact at_c2 _ _ _ _ | (refine at_vals ?_; omega) | exact atI_nat (by assumption)))
  | refine ⟨_, _, _, _, rfl, ?_⟩
  | refine ⟨_, _, _, _, _, rfl, ?_⟩
  | (refine' ⟨_, _, rfl, ?h, ?ha, ?q⟩; (case h => walk_at "sq"); (case ha => first | rfl | exact Nat.le_of_ble_eq_true rfl))
  | refine Or.inr ⟨_, rfl, ?_⟩
  | (refine' ⟨_, _, rfl, Or.inr ?h, ?q⟩; (case h => walk_at "sq"))
  | (refine' ⟨_, _, rfl, Or.inl ?h, ?q⟩; (case h => walk_at "sq"))
  | refine ⟨_, _, _, _, _, rfl, .ty _, .base (.int _), kit_ty kit_ii, ?_⟩
  | refine ⟨_, _, _, _, _, rfl, .ty _, .base (.int _), kit_ty kit_ib, ?_⟩
  | refine ⟨_, _, _, _, _, rfl, .ty _, .base (.str _), kit_ty kit_ss, ?_⟩
  | refine ⟨_, _, _, _, _, rfl, .ty _, .base (.tup (by assumption)), kit_ty kit_tt, ?_⟩
  | with_reducible refine iteT ?_
  | with_reducible refine iteF ?_
  | refine ite_yes (by first | decide | omega) ?_
  | refine ite_no (by first | decide | omega) ?_
  | refine ite_no (fun z => absurd (V.str.inj z) (by assumption)) ?_
  | refine ite_no (fun z => absurd (V.int.inj z) (by omega)) ?_
  | refine ite_yes (congrArg V.int (by omega)) ?_
  | refine ite_nyes (by first | decide | omega) ?_
  | refine ite_nno (by first | decide | omega) ?_
  | (refine' And.intro (Or.inl ⟨rfl, _, ?h⟩) ?q; (case h => first | exact SqL.of (by first | assumption | exact upd_same) | walk_at "sq"))
  | (refine' And.intro ?h ?q; (case h => exact Evl.sz_of (Nat.le_of_ble_eq_true rfl)))
  | refine fun p (hp : (_ : Hp) p = none) => ?_
  | (refine' ⟨_, _, rfl, Or.inr ?h, rfl, rfl, ?q⟩; (case h => walk_at "sq"))
  | (refine' ⟨_, _, rfl, Or.inl ?h, rfl, rfl, ?q⟩; (case h => walk_at "sq"))
  | (refine' ⟨_, _, _, _, _, rfl, ?h, ?c, ?n, ?l, ?q⟩; (case h => walk_at "in"); (case c => assumption); (case n => assumption); (case l => walk_at "lk"))
  | (refine' ⟨_, _, _, rfl, ?h, ?l, ?q⟩; (case h => walk_at "in"); (case l => exact lk_none (by decide) _))
  | (refine' And.intro ?h ?q; (case h => walk_at "cond")))
local macro_rules | `(tactic| walk_at "rd") => `(tactic| repeat walk_at "rd1")
local macro_rules | `(tactic| walk_at "rs") => `(tactic| repeat' (first | walk_at "rd1" | refine ite2d (fun h => ?_) (fun h => ?_) | refine ite2n (fun h => ?_) (fun h => ?_) | refine ite2 (fun h => ?_) (fun h => ?_)))
local macro_rules | `(tactic| walk_at "pu") => `(tactic| repeat (first | assumption | refine purse_new ?_ (by assumption)))
local macro_rules | `(tactic| walk_at "mv") => `(tactic| repeat (first | assumption | exact Mv.rf _ _ | refine Mv.nw ?_ (by assumption) | refine Mv.tr ?_ (by assumption)))

variable {P : Program} {w : World} {K : PySem.W.Frag} {mg : Str → Option Value} {base : Heap} {D : Ad}
/-! ### _law_shuts_right -/
theorem land_mem {H : Hp} {s : Addr} {L : Lnd} (h : LandAt D H s L) {b : Addr} (hb : H b = none) : b ∉ LS s L := by
  intro hm
  obtain ⟨us, h1, _⟩ := h.past
  obtain ⟨vs, h2, _⟩ := h.fut
  unfold LS at hm
  simp only [List.mem_cons, List.not_mem_nil, or_false] at hm
  rcases hm with e | e | e | e
  · rw [e, h.ins] at hb; cases hb
  · rw [e, h1] at hb; cases hb
  · rw [e, h2] at hb; cases hb
  · rw [e, h.shelf] at hb; cases hb
theorem edok {x : Str} {a b c d n : Int} (hx : x ≠ "copy") (hb : -1000000 ≤ a ∧ a ≤ c ∧ c ≤ 1000000 ∧ -1000000 ≤ b ∧ b ≤ d ∧ d ≤ 1000000) (h1 : -999999999 ≤ n) (h2 : n ≤ 999999999) : EdOk ⟨x, a, b, c, d, n, 0⟩ := ⟨hb, ⟨h1, h2⟩, fun h => absurd h hx⟩
theorem notLS {s l : Addr} {H : Hp} {L L' : Lnd} {o : HO} (hn : l ∉ LS s L) (f5 : L'.past = L.past) (f6 : L'.shelf = L.shelf) (hl : H l = some o) (f8 : H L'.fut = none ∨ L'.fut = L.fut) : l ∉ LS s L' := by
  unfold LS at hn ⊢
  simp only [List.mem_cons, List.not_mem_nil, or_false, not_or] at hn ⊢
  refine ⟨hn.1, by rw [f5]; exact hn.2.1, fun e => ?_, by rw [f6]; exact hn.2.2.2⟩
  rcases f8 with z | z
  · rw [← e, hl] at z; cases z
  · exact hn.2.2.1 (e.trans z)
theorem LRun.tst {s : Addr} {H0 H : Hp} {L0 L : Lnd} {es : List Ed} {ps : List (List Ed)} {nf : Nat} (r : LRun D s H0 L0 es ps nf H L) (h : LandAt D H0 s L0) : Tst H0 H := h.tst r.fr
/-- the states behind a few edits -/
def psW (es : List Ed) (ws : List Ed) (k : Nat) : List (List Ed) := (List.range k).map fun j => es ++ ws.take j
theorem psW_succ (es ws : List Ed) (k : Nat) : psW es ws (k + 1) = psW es ws k ++ [es ++ ws.take k] := by
  unfold psW
  rw [List.range_succ, List.map_append]
  rfl
theorem psW_len (es ws : List Ed) (k : Nat) : (psW es ws k).length = k := by
  unfold psW
  rw [List.length_map, List.length_range]
def spSR : Ad → Sp := fun D vs H Q _ => ∃ (s q g : Addr) (L : Lnd) (a b c d x z : Int), vs = [.ref s, .ref q, .ref g] ∧ LandAt D H s L ∧ Tp H q [.int a, .int b, .int c, .int d] ∧ Tp H g [.int x, .int z] ∧ BxIn a b c d ∧ inBx a b c d x z = true ∧ L.es.length ≤ 3 ∧ L.ps.length ≤ 3 ∧ L.nf ≤ 2 ∧
  ∀ (H' : Hp) (L' : Lnd) (nf : Nat), nf ≤ 2 → LRun D s H L L.es L.ps nf H' L' → Q (.bl true) H'
theorem h_shuts (F : DefAt K mg "_law_shuts_right" s__law_shuts_right [] []) (T : Txt K w mg D) (G_least_level : Has P w K mg base 28 "least_level" (spLeast K D) []) (G_height : HasM P w K mg base 26 D.C "height" (spHAt D)) (G_edit : HasM P w K mg base 4 D.C "edit" (spEditM D)) (G_back : HasM P w K mg base 2 D.C "back" (spBack D)) : Has P w K mg base 29 "_law_shuts_right" (spSR D) [] := by
  refine has_of F sc__law_shuts_right (fun _ _ _ _ _ _ us hl => match us, hl with | [_, _, _], _ => rfl) ?_ ?_
  · rintro _ _ _ _ ⟨_, _, _, _, _, _, _, _, _, _, rfl, _⟩; rfl
  · rintro f cdv A outer s0 H vs Q E hr ⟨s, q, g, L, a, b, c, d, x, z, rfl, hL, hq, hg, hb, hin, hel, hpl, hnf, kk⟩
    have hu := hu_of hr
    refine ⟨_, pss_cons (ps_set (i := 3) sc__law_shuts_right.nd rfl (Or.inl rfl) (pe_c G_least_level (hr.mono (by decide)) (by rfl) (pa_cons (pv 0) (pa_cons (pv 1) (pa_cons (pv 2) (pa_nil))))))
      (pss_cons (ps_set (i := 4) sc__law_shuts_right.nd rfl (Or.inl rfl) (pe_m G_height (hr.mono (by decide)) T.cl (pv 0) (pa_cons (pe_ix ix_tup (pv 2) (pe_int) (fun _ _ => rfl)) (pa_cons (pe_ix ix_tup (pv 2) (pe_int) (fun _ _ => rfl)) (pa_nil)))))
      (pss_cons (ps_if (PW.pt (pw_or (pt_cmpR op_gt (pe_callB call_abs (by rfl) T.f_abs bt_abs (pa_cons (pv 3) (pa_nil))) (pe_int) (nomark _)) (pw_or1 (pt_cmpR op_gt (pe_callB call_abs (by rfl) T.f_abs bt_abs (pa_cons (pv 4) (pa_nil))) (pe_int) (nomark _))))) (pss_one (ps_ret (pe_bl))) (pss_nil))
      (pss_cons (ps_asg (pv 1) (pg_tup rfl (pgs_cons (pg_name (i := 5) sc__law_shuts_right.nd rfl (Or.inl rfl)) (pgs_cons (pg_name (i := 6) sc__law_shuts_right.nd rfl (Or.inl rfl)) (pgs_cons (pg_name (i := 7) sc__law_shuts_right.nd rfl (Or.inl rfl)) (pgs_cons (pg_name (i := 8) sc__law_shuts_right.nd rfl (Or.inl rfl)) (pgs_nil)))))))
      (pss_cons (ps_set (i := 9) sc__law_shuts_right.nd rfl (Or.inl rfl) (pe_tup (pa_cons (pv 5) (pa_cons (pv 6) (pa_cons (pe_callB (call_max2 rfl) (by rfl) T.f_max bt_max (pa_cons (pv 5) (pa_cons (pe_op op_sub (pv 7) (pe_int)) (pa_nil)))) (pa_cons (pe_callB (call_max2 rfl) (by rfl) T.f_max bt_max (pa_cons (pv 6) (pa_cons (pe_op op_sub (pv 8) (pe_int)) (pa_nil)))) (pa_nil)))))))
      (pss_cons (ps_if (PW.pt (pw_and (pt_cmpR op_le (pe_ix ix_tup (pv 2) (pe_int) (fun _ _ => rfl)) (pe_ix ix_tup (pv 9) (pe_int) (fun _ _ => rfl)) (nomark _)) (pw_and (pt_cmpR op_le (pe_ix ix_tup (pv 2) (pe_int) (fun _ _ => rfl)) (pe_ix ix_tup (pv 9) (pe_int) (fun _ _ => rfl)) (nomark _)) (pw_and1 (pt_cmpR op_gt (pe_c G_least_level (hr.mono (by decide)) (by rfl) (pa_cons (pv 0) (pa_cons (pv 9) (pa_cons (pv 2) (pa_nil))))) (pv 3) (nomark _)))))) (pss_one (ps_ret (pe_bl))) (pss_nil))
      (pss_cons (ps_expr (pe_m G_edit (hr.mono (by decide)) T.cl (pv 0) (pa_cons (pe_tup (pa_cons (pe_str) (pa_cons (pv 1) (pa_cons (pe_int) (pa_nil))))) (pa_nil))))
      (pss_cons (ps_if (pt_cmpR op_ne (pe_c G_least_level (hr.mono (by decide)) (by rfl) (pa_cons (pv 0) (pa_cons (pv 1) (pa_cons (pv 2) (pa_nil))))) (pe_op op_add (pv 3) (pe_int)) (nomark _)) (pss_one (ps_ret (pe_bl))) (pss_nil))
      (pss_cons (ps_expr (pe_m0 G_back (hr.mono (by decide)) T.cl (pv 0)))
      (pss_cons (ps_for PassesOwn.never rfl (pi_list (pe_lst (pa_cons (pe_tup (pa_cons (pv 5) (pa_cons (pv 6) (pa_cons (pv 7) (pa_cons (pv 6) (pa_nil)))))) (pa_cons (pe_tup (pa_cons (pv 5) (pa_cons (pv 8) (pa_cons (pv 7) (pa_cons (pv 8) (pa_nil)))))) (pa_cons (pe_tup (pa_cons (pv 5) (pa_cons (pv 6) (pa_cons (pv 5) (pa_cons (pv 8) (pa_nil)))))) (pa_cons (pe_tup (pa_cons (pv 7) (pa_cons (pv 6) (pa_cons (pv 7) (pa_cons (pv 8) (pa_nil)))))) (pa_nil))))))) (pg_name (i := 10) sc__law_shuts_right.nd rfl (Or.inl rfl)) (pss_one (ps_expr (pe_m G_edit (hr.mono (by decide)) T.cl (pv 0) (pa_cons (pe_tup (pa_cons (pe_str) (pa_cons (pv 10) (pa_cons (pe_op op_add (pv 3) (pe_int)) (pa_nil))))) (pa_nil))))))
      (pss_cons (ps_set (i := 11) sc__law_shuts_right.nd rfl (Or.inl rfl) (pe_c G_least_level (hr.mono (by decide)) (by rfl) (pa_cons (pv 0) (pa_cons (pv 1) (pa_cons (pv 2) (pa_nil))))))
      (pss_cons (ps_for PassesOwn.never rfl (pi_range1 (by rfl) T.f_range (pa_cons (pe_int) (pa_nil))) (pg_name (i := 10) sc__law_shuts_right.nd rfl (Or.inl rfl)) (pss_one (ps_expr (pe_m0 G_back (hr.mono (by decide)) T.cl (pv 0)))))
      (pss_cons (ps_if (pt_cmpR op_ne (pv 11) (pe_callB (call_max2 rfl) (by rfl) T.f_max bt_max (pa_cons (pv 3) (pa_cons (pe_op op_add (pv 3) (pe_int)) (pa_nil)))) (nomark _)) (pss_one (ps_ret (pe_bl))) (pss_nil))
      (pss_cons (ps_expr (pe_m G_edit (hr.mono (by decide)) T.cl (pv 0) (pa_cons (pe_tup (pa_cons (pe_str) (pa_cons (pe_tup (pa_cons (pv 5) (pa_cons (pe_ix ix_tup (pv 2) (pe_int) (fun _ _ => rfl)) (pa_cons (pe_ix ix_tup (pv 2) (pe_int) (fun _ _ => rfl)) (pa_cons (pe_ix ix_tup (pv 2) (pe_int) (fun _ _ => rfl)) (pa_nil)))))) (pa_cons (pv 4) (pa_nil))))) (pa_nil))))
      (pss_cons (ps_if (pt_cmpR op_ne (pe_c G_least_level (hr.mono (by decide)) (by rfl) (pa_cons (pv 0) (pa_cons (pv 1) (pa_cons (pv 2) (pa_nil))))) (pv 4) (nomark _)) (pss_one (ps_ret (pe_bl))) (pss_nil))
      (pss_cons (ps_expr (pe_m0 G_back (hr.mono (by decide)) T.cl (pv 0)))
      (pss_one (ps_ret (pe_cmpR op_eq (pe_c G_least_level (hr.mono (by decide)) (by rfl) (pa_cons (pv 0) (pa_cons (pv 1) (pa_cons (pv 2) (pa_nil))))) (pv 3) (nomark _))))))))))))))))))), ?_⟩
    have hsb : KwM.inB ⟨a, b, c, d⟩ (x, z) := in_iff.mp hin
    obtain ⟨⟨hi1, hi2⟩, hi3, hi4⟩ := inB2.mp hin
    have hb' := hb
    obtain ⟨hb1, hb2, hb3, hb4, hb5, hb6, hb7, hb8⟩ := hb'
    have hbo : BxOk a b c d := ⟨hb1, hb2, by omega, by omega, hb5, hb6, by omega, by omega⟩
    clear hb
    have hLh : ∀ {es : List Ed} {ps : List (List Ed)} {nf : Nat} {H' : Hp} {L' : Lnd}, LRun D s H L es ps nf H' L' → L'.h = hgt L.bs es := fun r => r.h
    -- least
    refine seq_x (fun σ H' => Here (∃ lv, Ex H H' ∧ KwM.IsLeast (hF L.h) ⟨a, b, c, d⟩ (x, z) lv ∧ σ = [some (.ref s), some (.ref q), some (.ref g), some (.int lv), none, none, none, none, none, none, none, none])) ?_ (fun nx hnx => ?_)
    rotate_left
    · walk_at "rd"
      refine ⟨s, q, g, L, a, b, c, d, x, z, rfl, hL, tp_sq hq, hg, hbo, hin, fun H1 lv e1 hlv => ?_⟩
      walk_at "rd"
      exact hnx _ _ (.it ⟨lv, e1, hlv, rfl⟩)
    intro σ H1 hh
    obtain ⟨lv, e1, hlv, rfl⟩ := hh.get
    clear hh
    -- base
    refine seq_x (fun σ H' => Here (Ex H H' ∧ σ = [some (.ref s), some (.ref q), some (.ref g), some (.int lv), some (.int (L.h x z)), none, none, none, none, none, none, none])) ?_ (fun nx hnx => ?_)
    rotate_left
    · have hL1 := hL.ex e1
      have hins1 := hL1.ins
      have hg1 := tp_ex e1 hg
      walk_at "rd"
      refine ⟨s, L, x, z, rfl, hL1, by omega, fun H2 e2 => ?_⟩
      walk_at "rd"
      exact hnx _ _ (.it ⟨e1.tr e2, rfl⟩)
    intro σ H2 hh
    obtain ⟨e2, rfl⟩ := hh.get
    clear hh e1
    have hsl : L.h x z ≤ lv := hlv.1
    -- the guard
    refine seq_x (fun σ H' => Here (H' = H2 ∧ (-99999999 ≤ lv ∧ lv ≤ 99999999 ∧ -99999999 ≤ L.h x z ∧ L.h x z ≤ 99999999) ∧ σ = [some (.ref s), some (.ref q), some (.ref g), some (.int lv), some (.int (L.h x z)), none, none, none, none, none, none, none])) ?_ (fun nx hnx => ?_)
    rotate_left
    · have R2 := (LRun.start hL).ex e2
      walk_at "rd"
      refine ite2d (fun hc1 => ?_) (fun hc1 => ?_)
      · walk_at "rd"
        exact kk _ _ _ hnf R2
      walk_at "rd"
      refine ite2d (fun hc2 => ?_) (fun hc2 => ?_)
      · walk_at "rd"
        exact kk _ _ _ hnf R2
      have hlvb : -99999999 ≤ lv ∧ lv ≤ 99999999 := by split at hc1 <;> omega
      have hbsb : -99999999 ≤ L.h x z ∧ L.h x z ≤ 99999999 := by split at hc2 <;> omega
      clear hc1 hc2
      walk_at "rd"
      exact hnx _ _ (.it ⟨rfl, ⟨hlvb.1, hlvb.2, hbsb.1, hbsb.2⟩, rfl⟩)
    intro σ H2' hh
    obtain ⟨rfl, ⟨hlv1, hlv2, hbs1, hbs2⟩, rfl⟩ := hh.get
    clear hh
    -- low, near, high, far
    refine seq_x (fun σ H' => Here (H' = H2' ∧ σ = [some (.ref s), some (.ref q), some (.ref g), some (.int lv), some (.int (L.h x z)), some (.int a), some (.int b), some (.int c), some (.int d), none, none, none])) ?_ (fun nx hnx => ?_)
    rotate_left
    · have hq2 := tp_sq (K := K) (tp_ex e2 hq)
      walk_at "rd"
      exact hnx _ _ (.it ⟨rfl, rfl⟩)
    intro σ H2 hh
    obtain ⟨rfl, rfl⟩ := hh.get
    clear hh
    -- inner
    refine seq_x (fun σ H' => Here (∃ p3, Ex H H' ∧ Tp H' p3 [.int a, .int b, .int (max a (c - 1)), .int (max b (d - 1))] ∧ σ = [some (.ref s), some (.ref q), some (.ref g), some (.int lv), some (.int (L.h x z)), some (.int a), some (.int b), some (.int c), some (.int d), some (.ref p3), none, none])) ?_ (fun nx hnx => ?_)
    rotate_left
    · walk_at "rd"
      rename_i p3 hp3
      refine hnx _ _ (.it ⟨p3, e2.nw hp3, ?_, rfl⟩)
      have h1 : (if c - 1 > a then c - 1 else a) = max a (c - 1) := by split <;> omega
      have h2 : (if d - 1 > b then d - 1 else b) = max b (d - 1) := by split <;> omega
      rw [← h1, ← h2]
      exact upd_same
    intro σ H3 hh
    obtain ⟨p3, e3, hp3, rfl⟩ := hh.get
    clear hh e2
    -- within the lesser box
    refine seq_x (fun σ H' => Here (Ex H H' ∧ σ = [some (.ref s), some (.ref q), some (.ref g), some (.int lv), some (.int (L.h x z)), some (.int a), some (.int b), some (.int c), some (.int d), some (.ref p3), none, none])) ?_ (fun nx hnx => ?_)
    rotate_left
    · have hg3 := tp_ex e3 hg
      have hm1 : a ≤ max a (c - 1) ∧ max a (c - 1) ≤ c := by omega
      have hm2 : b ≤ max b (d - 1) ∧ max b (d - 1) ≤ d := by omega
      have hLI : x ≤ max a (c - 1) → z ≤ max b (d - 1) → inBx a b (max a (c - 1)) (max b (d - 1)) x z = true := fun h1 h2 => inB2.mpr ⟨⟨hi1, h1⟩, hi3, h2⟩
      have hLJ : ∀ lv', x ≤ max a (c - 1) → z ≤ max b (d - 1) → KwM.IsLeast (hF L.h) ⟨a, b, max a (c - 1), max b (d - 1)⟩ (x, z) lv' → lv' ≤ lv := fun lv' h1 h2 hl => KwM.IsLeast.inner_le (b := ⟨a, b, c, d⟩) (in_iff.mp (hLI h1 h2)) hlv hl
      generalize max a (c - 1) = c' at *
      generalize max b (d - 1) = d' at *
      walk_at "rd"
      refine ite2d (fun hc1 => ?_) (fun hc1 => ?_)
      · walk_at "rd"
        refine ite2d (fun hc2 => ?_) (fun hc2 => ?_)
        · walk_at "rd"
          refine ⟨s, p3, g, L, a, b, c', d', x, z, rfl, hL.ex e3, tp_sq hp3, hg3, ⟨hb1, hm1.1, by omega, by omega, hb5, hm2.1, by omega, by omega⟩, hLI hc1 hc2, fun H4 lv' e4 hlv' => ?_⟩
          have := hLJ lv' hc1 hc2 hlv'
          walk_at "rd"
          exact hnx _ _ (.it ⟨e3.tr e4, rfl⟩)
        · walk_at "rd"
          exact hnx _ _ (.it ⟨e3, rfl⟩)
      · walk_at "rd"
        exact hnx _ _ (.it ⟨e3, rfl⟩)
    intro σ H4 hh
    obtain ⟨e4, rfl⟩ := hh.get
    clear hh hp3 e3
    have R4 := (LRun.start hL).ex e4
    -- raise
    refine seq_x (fun σ H' => Here (∃ L', LRun D s H L (L.es ++ [⟨"raise", a, b, c, d, 70, 0⟩]) (L.ps ++ [L.es]) 0 H' L' ∧ σ = [some (.ref s), some (.ref q), some (.ref g), some (.int lv), some (.int (L.h x z)), some (.int a), some (.int b), some (.int c), some (.int d), some (.ref p3), none, none])) ?_ (fun nx hnx => ?_)
    rotate_left
    · have hins := R4.land.ins
      walk_at "rd"
      rename_i t1 ht1
      have R5 := R4.ex ((Ex.rfl' H4).nw (o := .tup [.str "raise", .ref q, .int 70]) ht1)
      have hq5 := tp_new (o := .tup [.str "raise", .ref q, .int 70]) ht1 (tp_ex e4 hq)
      refine ⟨s, L, .ref t1, ⟨"raise", a, b, c, d, 70, 0⟩, rfl, R5.land, ⟨t1, q, rfl, hq5, .inl ⟨.raise, tp_up⟩⟩, edok (by decide) ⟨hb1, hb2, by omega, hb5, hb6, by omega⟩ (by omega) (by omega), by omega, by omega, fun r L' H' f0 f1 f2 f3 f4 f5 f6 f7 f8 f9 => ?_⟩
      walk_at "rd"
      exact hnx _ _ (.it ⟨L', R5.edit f0 f1 f2 f3 f4 f5 f6 f7 f8 f9, rfl⟩)
    intro σ H5 hh
    obtain ⟨L5, R5, rfl⟩ := hh.get
    clear hh R4 e4
    -- its least level
    refine seq_x (fun σ H' => Here (∃ L', LRun D s H L (L.es ++ [⟨"raise", a, b, c, d, 70, 0⟩]) (L.ps ++ [L.es]) 0 H' L' ∧ σ = [some (.ref s), some (.ref q), some (.ref g), some (.int lv), some (.int (L.h x z)), some (.int a), some (.int b), some (.int c), some (.int d), some (.ref p3), none, none])) ?_ (fun nx hnx => ?_)
    rotate_left
    · have hq5 := R5.tst hL _ _ hq
      have hg5 := R5.tst hL _ _ hg
      walk_at "rd"
      refine ⟨s, q, g, L5, a, b, c, d, x, z, rfl, R5.land, tp_sq hq5, hg5, hbo, hin, fun H6 lv' e6 hlv' => ?_⟩
      rw [hLh R5] at hlv'
      obtain rfl : lv' = lv + 70 := hlv'.uniq (KwM.IsLeast.raise (h := hF L.h) raise_all hsb hlv)
      walk_at "rd"
      refine ite_nno rfl ?_
      walk_at "rd"
      exact hnx _ _ (.it ⟨L5, R5.ex e6, rfl⟩)
    intro σ H6 hh
    clear R5
    obtain ⟨L6, R6, rfl⟩ := hh.get
    clear hh
    -- back
    refine seq_x (fun σ H' => Here (∃ L', LRun D s H L L.es L.ps 1 H' L' ∧ σ = [some (.ref s), some (.ref q), some (.ref g), some (.int lv), some (.int (L.h x z)), some (.int a), some (.int b), some (.int c), some (.int d), some (.ref p3), none, none])) ?_ (fun nx hnx => ?_)
    rotate_left
    · have hins := R6.land.ins
      walk_at "rd"
      refine ⟨s, L6, L.ps, L.es, rfl, R6.land, R6.ps, by rw [R6.nf]; decide, fun r L' H' f0 f1 f2 f3 f4 f5 f6 f7 f8 f9 => ?_⟩
      walk_at "rd"
      exact hnx _ _ (.it ⟨L', R6.back f0 f1 f2 f3 f4 f5 f6 f7 f8 f9, rfl⟩)
    intro σ H7 hh
    clear R6
    obtain ⟨L7, R7, rfl⟩ := hh.get
    clear hh
    -- the wall
    refine seq_x (fun σ H' => Here (∃ L' r10, LRun D s H L (L.es ++ wallE a b c d (lv + 50)) (L.ps ++ psW L.es (wallE a b c d (lv + 50)) 4) 0 H' L' ∧ σ = [some (.ref s), some (.ref q), some (.ref g), some (.int lv), some (.int (L.h x z)), some (.int a), some (.int b), some (.int c), some (.int d), some (.ref p3), r10, none])) ?_ (fun nx hnx => ?_)
    rotate_left
    · walk_at "rd"
      rename_i t1 ht1 t2 ht2 t3 ht3 t4 ht4 l hl
      have eT := (((((Ex.rfl' H7).nw (o := .tup [.int a, .int b, .int c, .int b]) ht1).nw (o := .tup [.int a, .int d, .int c, .int d]) ht2).nw (o := .tup [.int a, .int b, .int a, .int d]) ht3).nw (o := .tup [.int c, .int b, .int c, .int d]) ht4)
      have k1' := (((Ex.rfl' (upd H7 t1 (.tup [.int a, .int b, .int c, .int b]))).nw (o := .tup [.int a, .int d, .int c, .int d]) ht2).nw (o := .tup [.int a, .int b, .int a, .int d]) ht3).nw (o := .tup [.int c, .int b, .int c, .int d]) ht4 t1 _ upd_same
      have k2' := ((Ex.rfl' (upd (upd H7 t1 (.tup [.int a, .int b, .int c, .int b])) t2 (.tup [.int a, .int d, .int c, .int d]))).nw (o := .tup [.int a, .int b, .int a, .int d]) ht3).nw (o := .tup [.int c, .int b, .int c, .int d]) ht4 t2 _ upd_same
      have k3' := (Ex.rfl' (upd (upd (upd H7 t1 (.tup [.int a, .int b, .int c, .int b])) t2 (.tup [.int a, .int d, .int c, .int d])) t3 (.tup [.int a, .int b, .int a, .int d]))).nw (o := .tup [.int c, .int b, .int c, .int d]) ht4 t3 _ upd_same
      have k4' : (upd (upd (upd (upd H7 t1 (.tup [.int a, .int b, .int c, .int b])) t2 (.tup [.int a, .int d, .int c, .int d])) t3 (.tup [.int a, .int b, .int a, .int d])) t4 (.tup [.int c, .int b, .int c, .int d])) t4 = _ := upd_same
      generalize upd (upd (upd (upd H7 t1 (.tup [.int a, .int b, .int c, .int b])) t2 (.tup [.int a, .int d, .int c, .int d])) t3 (.tup [.int a, .int b, .int a, .int d])) t4 (.tup [.int c, .int b, .int c, .int d]) = HB at *
      have R8 := (R7.ex eT).ex ((Ex.rfl' HB).nw (o := .lst [V.ref t1, .ref t2, .ref t3, .ref t4]) hl)
      have hln := land_mem (R7.ex eT).land hl
      have hTk : ∀ k : Addr, ∀ xs, Tp HB k xs → Tp (upd HB l (.lst [V.ref t1, .ref t2, .ref t3, .ref t4])) k xs := fun k xs h => tp_new hl h
      have hll : (upd HB l (.lst [V.ref t1, .ref t2, .ref t3, .ref t4])) l = some (.lst [V.ref t1, .ref t2, .ref t3, .ref t4]) := upd_same
      replace k1' := hTk _ _ k1'
      replace k2' := hTk _ _ k2'
      replace k3' := hTk _ _ k3'
      replace k4' := hTk _ _ k4'
      clear hTk
      generalize upd HB l (.lst [V.ref t1, .ref t2, .ref t3, .ref t4]) = HC at *
      refine ⟨⟨_, Evl.sq_of hll⟩, ?_⟩
      refine for_list (K := K) (a := l) (xs := [V.ref t1, .ref t2, .ref t3, .ref t4]) (fun i σ H' => Here (∃ L' r10 nf, (i ≠ 0 → nf = 0) ∧ LRun D s H L (L.es ++ (wallE a b c d (lv + 50)).take i) (L.ps ++ psW L.es (wallE a b c d (lv + 50)) i) nf H' L' ∧ H' l = some (.lst [V.ref t1, .ref t2, .ref t3, .ref t4]) ∧ l ∉ LS s L' ∧ Tst HC H' ∧ σ = [some (.ref s), some (.ref q), some (.ref g), some (.int lv), some (.int (L.h x z)), some (.int a), some (.int b), some (.int c), some (.int d), some (.ref p3), r10, none])) (.it ⟨L7, none, 1, fun h => absurd rfl h, by simpa [psW] using R8, hll, hln, fun _ _ h => h, rfl⟩) (fun i σ H' _ hh => by obtain ⟨_, _, _, _, _, z, _⟩ := hh.get; exact Evl.sq_of z) ?_ ?_
      · intro i u σ H' hu' hh
        obtain ⟨L', r10, nf, _, R', hl', hln', ht', rfl⟩ := hh.get
        obtain ⟨r, a', b', c', d', rfl, hr1, hwi, hbn⟩ : ∃ r a' b' c' d', u = .ref r ∧ Tp HC r [.int a', .int b', .int c', .int d'] ∧ (wallE a b c d (lv + 50))[i]? = some ⟨"least", a', b', c', d', lv + 50, 0⟩ ∧ (-1000000 ≤ a' ∧ a' ≤ c' ∧ c' ≤ 1000000 ∧ -1000000 ≤ b' ∧ b' ≤ d' ∧ d' ≤ 1000000) := by
          match i, hu' with
          | 0, h => exact ⟨t1, a, b, c, b, (Option.some.inj h).symm, k1', rfl, by omega⟩
          | 1, h => exact ⟨t2, a, d, c, d, (Option.some.inj h).symm, k2', rfl, by omega⟩
          | 2, h => exact ⟨t3, a, b, a, d, (Option.some.inj h).symm, k3', rfl, by omega⟩
          | 3, h => exact ⟨t4, c, b, c, d, (Option.some.inj h).symm, k4', rfl, by omega⟩
        have hi4 : i < 4 := (List.getElem?_eq_some_iff.mp hu').1
        have hins := R'.land.ins
        have hr2 := ht' _ _ hr1
        have hesl : L'.es.length ≤ 8 := by rw [R'.es, List.length_append, List.length_take]; omega
        have hpsl : L'.ps.length ≤ 8 := by rw [R'.ps, List.length_append, psW_len]; omega
        walk_at "rd"
        rename_i t5 ht5
        have R9 := R'.ex ((Ex.rfl' H').nw (o := .tup [.str "least", .ref r, .int (lv + 50)]) ht5)
        have hr3 := tp_new (o := .tup [.str "least", .ref r, .int (lv + 50)]) ht5 hr2
        refine ⟨s, L', .ref t5, ⟨"least", a', b', c', d', lv + 50, 0⟩, rfl, R9.land, ⟨t5, r, rfl, hr3, .inl ⟨.least, tp_up⟩⟩, edok (by decide) hbn (by omega) (by omega), by omega, by omega, fun rr L'' H'' f0 f1 f2 f3 f4 f5 f6 f7 f8 f9 => ?_⟩
        have hl5 : (upd H' t5 (.tup [.str "least", .ref r, .int (lv + 50)])) l = some (.lst [V.ref t1, .ref t2, .ref t3, .ref t4]) := by rw [upd_ne (ne_of_none hl' ht5)]; exact hl'
        walk_at "rd"
        refine .it ⟨L'', _, 0, fun _ => rfl, ?_, f9 _ _ hl5 hln', notLS hln' f5 f6 hl5 (.inl f8), fun k xs hk => R9.land.tst f9 _ _ (tp_new ht5 (ht' _ _ hk)), rfl⟩
        rw [take_snoc hwi, psW_succ, ← List.append_assoc, ← List.append_assoc]
        exact R9.edit f0 f1 f2 f3 f4 f5 f6 f7 f8 f9
      · intro σ H' hh
        obtain ⟨L', r10, nf, hnf, R', hl', hln', ht', rfl⟩ := hh.get
        obtain rfl := hnf (Nat.succ_ne_zero 3)
        exact hnx _ _ (.it ⟨L', r10, R', rfl⟩)
    intro σ H8 hh
    clear R7
    obtain ⟨L8, r10, R8, rfl⟩ := hh.get
    clear hh
    -- lifted
    refine seq_x (fun σ H' => Here (∃ L', LRun D s H L (L.es ++ wallE a b c d (lv + 50)) (L.ps ++ psW L.es (wallE a b c d (lv + 50)) 4) 0 H' L' ∧ σ = [some (.ref s), some (.ref q), some (.ref g), some (.int lv), some (.int (L.h x z)), some (.int a), some (.int b), some (.int c), some (.int d), some (.ref p3), r10, some (.int (lv + 50))])) ?_ (fun nx hnx => ?_)
    rotate_left
    · have hq5 := R8.tst hL _ _ hq
      have hg5 := R8.tst hL _ _ hg
      walk_at "rd"
      refine ⟨s, q, g, L8, a, b, c, d, x, z, rfl, R8.land, tp_sq hq5, hg5, hbo, hin, fun H6 lv' e6 hlv' => ?_⟩
      rw [hLh R8] at hlv'
      obtain rfl : lv' = lv + 50 := hlv'.uniq (KwM.IsLeast.wall (h := hF L.h) (c := 50) (by decide) (fun p hp => (wall_h hp).1) (fun p hp => (wall_h hp).2) hsb hlv)
      walk_at "rd"
      exact hnx _ _ (.it ⟨L8, R8.ex e6, rfl⟩)
    intro σ H9 hh
    clear R8
    obtain ⟨L9, R9, rfl⟩ := hh.get
    clear hh
    -- four back
    refine seq_x (fun σ H' => Here (∃ L' r10, LRun D s H L L.es L.ps 4 H' L' ∧ σ = [some (.ref s), some (.ref q), some (.ref g), some (.int lv), some (.int (L.h x z)), some (.int a), some (.int b), some (.int c), some (.int d), some (.ref p3), r10, some (.int (lv + 50))])) ?_ (fun nx hnx => ?_)
    rotate_left
    · walk_at "rd"
      refine for_range (fun i σ H' => Here (∃ L' r10, LRun D s H L (L.es ++ (wallE a b c d (lv + 50)).take (4 - i)) (L.ps ++ psW L.es (wallE a b c d (lv + 50)) (4 - i)) i H' L' ∧ σ = [some (.ref s), some (.ref q), some (.ref g), some (.int lv), some (.int (L.h x z)), some (.int a), some (.int b), some (.int c), some (.int d), some (.ref p3), r10, some (.int (lv + 50))])) (.it ⟨L9, r10, R9, rfl⟩) ?_ ?_
      · intro i σ H' hi hh
        obtain ⟨L', r10', R', rfl⟩ := hh.get
        have hi4 : i < 4 := hi
        have hins := R'.land.ins
        rw [show 4 - i = (4 - (i + 1)) + 1 by omega, psW_succ, ← List.append_assoc] at R'
        walk_at "rd"
        refine ⟨s, L', _, _, rfl, R'.land, R'.ps, by rw [R'.nf]; omega, fun r L'' H'' f0 f1 f2 f3 f4 f5 f6 f7 f8 f9 => ?_⟩
        walk_at "rd"
        exact .it ⟨L'', _, R'.back f0 f1 f2 f3 f4 f5 f6 f7 f8 f9, rfl⟩
      · intro σ H' hh
        obtain ⟨L', r10', R', rfl⟩ := hh.get
        refine hnx _ _ (.it ⟨L', _, ?_, rfl⟩)
        have := R'
        rw [show 4 - (4 : Int).toNat = 0 by decide] at this
        simpa [psW] using this
    intro σ H10 hh
    clear R9
    obtain ⟨L10, r10', R10, rfl⟩ := hh.get
    clear hh
    -- lifted by as much
    refine seq_x (fun σ H' => Here (H' = H10 ∧ σ = [some (.ref s), some (.ref q), some (.ref g), some (.int lv), some (.int (L.h x z)), some (.int a), some (.int b), some (.int c), some (.int d), some (.ref p3), r10', some (.int (lv + 50))])) ?_ (fun nx hnx => ?_)
    rotate_left
    · walk_at "rd"
      refine ite_nno (congrArg V.int (by split <;> omega)) ?_
      walk_at "rd"
      exact hnx _ _ (.it ⟨rfl, rfl⟩)
    intro σ H10' hh
    obtain ⟨rfl, rfl⟩ := hh.get
    clear hh
    -- the ditch
    refine seq_x (fun σ H' => Here (∃ L', LRun D s H L (L.es ++ [⟨"most", a, z, x, z, L.h x z, 0⟩]) (L.ps ++ [L.es]) 0 H' L' ∧ σ = [some (.ref s), some (.ref q), some (.ref g), some (.int lv), some (.int (L.h x z)), some (.int a), some (.int b), some (.int c), some (.int d), some (.ref p3), r10', some (.int (lv + 50))])) ?_ (fun nx hnx => ?_)
    rotate_left
    · have hins := R10.land.ins
      have hg5 := R10.tst hL _ _ hg
      walk_at "rd"
      rename_i t1 ht1 t2 ht2
      have eT := ((Ex.rfl' H10').nw (o := .tup [.int a, .int z, .int x, .int z]) ht1).nw (o := .tup [.str "most", .ref t1, .int (L.h x z)]) ht2
      have R11 := R10.ex eT
      refine ⟨s, L10, .ref t2, ⟨"most", a, z, x, z, L.h x z, 0⟩, rfl, R11.land, ⟨t2, t1, rfl, tp_new ht2 tp_up, .inl ⟨.most, tp_up⟩⟩, edok (by decide) (by omega) (by omega) (by omega), by rw [R11.es]; omega, by rw [R11.ps]; omega, fun r L' H' f0 f1 f2 f3 f4 f5 f6 f7 f8 f9 => ?_⟩
      walk_at "rd"
      exact hnx _ _ (.it ⟨L', R11.edit f0 f1 f2 f3 f4 f5 f6 f7 f8 f9, rfl⟩)
    intro σ H11 hh
    clear R10
    obtain ⟨L11, R11, rfl⟩ := hh.get
    clear hh
    refine seq_x (fun σ H' => Here (∃ L', LRun D s H L (L.es ++ [⟨"most", a, z, x, z, L.h x z, 0⟩]) (L.ps ++ [L.es]) 0 H' L' ∧ σ = [some (.ref s), some (.ref q), some (.ref g), some (.int lv), some (.int (L.h x z)), some (.int a), some (.int b), some (.int c), some (.int d), some (.ref p3), r10', some (.int (lv + 50))])) ?_ (fun nx hnx => ?_)
    rotate_left
    · have hq5 := R11.tst hL _ _ hq
      have hg5 := R11.tst hL _ _ hg
      walk_at "rd"
      refine ⟨s, q, g, L11, a, b, c, d, x, z, rfl, R11.land, tp_sq hq5, hg5, hbo, hin, fun H6 lv' e6 hlv' => ?_⟩
      rw [hLh R11] at hlv'
      obtain rfl : lv' = L.h x z := hlv'.uniq (KwM.IsLeast.ditch (h := hF L.h) (s := (x, z)) (fun p hp h1 h2 => ditch_h p hp h1 h2) hsb)
      walk_at "rd"
      refine ite_nno rfl ?_
      walk_at "rd"
      exact hnx _ _ (.it ⟨L11, R11.ex e6, rfl⟩)
    intro σ H12 hh
    clear R11
    obtain ⟨L12, R12, rfl⟩ := hh.get
    clear hh
    refine seq_x (fun σ H' => Here (∃ L', LRun D s H L L.es L.ps 1 H' L' ∧ σ = [some (.ref s), some (.ref q), some (.ref g), some (.int lv), some (.int (L.h x z)), some (.int a), some (.int b), some (.int c), some (.int d), some (.ref p3), r10', some (.int (lv + 50))])) ?_ (fun nx hnx => ?_)
    rotate_left
    · have hins := R12.land.ins
      walk_at "rd"
      refine ⟨s, L12, L.ps, L.es, rfl, R12.land, R12.ps, by rw [R12.nf]; decide, fun r L' H' f0 f1 f2 f3 f4 f5 f6 f7 f8 f9 => ?_⟩
      walk_at "rd"
      exact hnx _ _ (.it ⟨L', R12.back f0 f1 f2 f3 f4 f5 f6 f7 f8 f9, rfl⟩)
    intro σ H13 hh
    clear R12
    obtain ⟨L13, R13, rfl⟩ := hh.get
    clear hh
    have hq5 := R13.tst hL _ _ hq
    have hg5 := R13.tst hL _ _ hg
    walk_at "rd"
    refine ⟨s, q, g, L13, a, b, c, d, x, z, rfl, R13.land, tp_sq hq5, hg5, hbo, hin, fun H6 lv' e6 hlv' => ?_⟩
    rw [hLh R13] at hlv'
    obtain rfl : lv' = lv := hlv'.uniq hlv
    walk_at "rd"
    exact qb (kk _ _ _ (by decide) (R13.ex e6)) (decide_eq_true rfl).symm

end Kw
set_option Elab.async false
set_option linter.all false
set_option maxRecDepth 100000
set_option maxHeartbeats 2000000
namespace Kw
open PySem PySem.Spec PyProof.Rows L2
local macro_rules | `(tactic| walk_at "in") => `(tactic| repeat (first | assumption | refine in_new (by assumption) ?_ | refine in_ex (by assumption) ?_))
local macro_rules | `(tactic| walk_at "lk") => `(tactic| first | exact lk_laid _ | exact lk_code _ | exact lk_grain _ | exact lk_past _ | exact lk_future _ | exact lk_shelf _ | exact lk_last _)
local macro_rules | `(tactic| walk_at "tp") => `(tactic| repeat (first | assumption | exact tp_up | refine tp_new (by assumption) ?_ | refine tp_lst (by assumption) ?_ | refine tp_ex (by assumption) ?_ | refine tp_mv (by assumption) ?_))
local macro_rules | `(tactic| walk_at "sq") => `(tactic| repeat (first | assumption | exact sq_up | exact sl_up | exact tp_sq (by assumption) | exact Evl.sq_of (by assumption) | refine sq_new (by assumption) ?_ | refine sl_new (by assumption) ?_ | refine sq_lst (by assumption) ?_ | refine sq_ex (by assumption) ?_ | refine sl_ex (by assumption) ?_ | refine sq_mv (by assumption) ?_))
local macro_rules | `(tactic| walk_at "ex") => `(tactic| repeat (first | assumption | exact Ex.rfl' _ | refine Ex.nw ?_ (by assumption) | refine Ex.tr ?_ (by assumption)))
local macro_rules | `(tactic| walk_at "cond") => `(tactic| first | decide | exact Or.inl ⟨by omega, by omega⟩ | exact Or.inr ⟨by omega, by omega⟩ | exact ⟨by omega, by omega⟩ | omega)
local macro_rules | `(tactic| walk_at "rd1") => `(tactic| first
  | refine ⟨_, rfl, ?_⟩
  | refine ⟨_, _, rfl, rfl, ?_⟩
  | refine ⟨_, _, rfl, ?_⟩
  | refine ⟨rfl, ?_⟩
  | refine ⟨_, _, _, rfl, ?_⟩
  | (refine' ⟨_, _, _, _, rfl, rfl, ?h, ?ha, ?q⟩; (case h => walk_at "sq"); (case ha => first | assumption | rfl | exact at_c0 _ _ | exact at_c1 _ _ _ | exact at_c2 _ _ _ _ | (refine at_vals ?_; omega) | exact atI_nat (by assumption)))
  | refine ⟨_, _, _, _, rfl, ?_⟩
  | refine ⟨_, _, _, _, _, rfl, ?_⟩
  | (refine' ⟨_, _, rfl, ?h, ?ha, ?q⟩; (case h => walk_at "sq"); (case ha => first | rfl | exact Nat.le_of_ble_eq_true rfl))
  | refine Or.inr ⟨_, rfl, ?_⟩
  | (refine' ⟨_, _, rfl, Or.inr ?h, ?q⟩; (case h => walk_at "sq"))
  | (refine' ⟨_, _, rfl, Or.inl ?h, ?q⟩; (case h => walk_at "sq"))
  | refine ⟨_, _, _, _, _, rfl, .ty _, .base (.int _), kit_ty kit_ii, ?_⟩
  | refine ⟨_, _, _, _, _, rfl, .ty _, .base (.int _), kit_ty kit_ib, ?_⟩
  | refine ⟨_, _, _, _, _, rfl, .ty _, .base (.str _), kit_ty kit_ss, ?_⟩
  | refine ⟨_, _, _, _, _, rfl, .ty _, .base (.tup (by assumption)), kit_ty kit_tt, ?_⟩
  | with_reducible refine iteT ?_
  | with_reducible refine iteF ?_
  | refine ite_yes (by first | decide | omega) ?_
  | refine ite_no (by first | decide | omega) ?_
  | refine ite_no (fun z => absurd (V.str.inj z) (by assumption)) ?_
  | refine ite_no (fun z => absurd (V.int.inj z) (by omega)) ?_
  | refine ite_yes (congrArg V.int (by omega)) ?_
  | refine ite_nyes (by first | decide | omega) ?_
  | refine ite_nno (by first | decide | omega) ?_
  | (refine' And.intro (Or.inl ⟨rfl, _, ?h⟩) ?q; (case h => first | exact SqL.of (by first | assumption | exact upd_same) | walk_at "sq"))
  | (refine' And.intro ?h ?q; (case h => exact Evl.sz_of (Nat.le_of_ble_eq_true rfl)))
  | refine fun p (hp : (_ : Hp) p = none) => ?_
  | (refine' ⟨_, _, rfl, Or.inr ?h, rfl, rfl, ?q⟩; (case h => walk_at "sq"))
  | (refine' ⟨_, _, rfl, Or.inl ?h, rfl, rfl, ?q⟩; (case h => walk_at "sq"))
  | (refine' ⟨_, _, _, _, _, rfl, ?h, ?c, ?n, ?l, ?q⟩; (case h => walk_at "in"); (case c => assumption); (case n => assumption); (case l => walk_at "lk"))
  | (refine' ⟨_, _, _, rfl, ?h, ?l, ?q⟩; (case h => walk_at "in"); (case l => exact lk_none (by decide) _))
  | (refine' And.intro ?h ?q; (case h => walk_at "cond")))
local macro_rules | `(tactic| walk_at "rd") => `(tactic| repeat walk_at "rd1")
local macro_rules | `(tactic| walk_at "rs") => `(tactic| repeat' (first | walk_at "rd1" | refine ite2d (fun h => ?_) (fun h => ?_) | refine ite2n (fun h => ?_) (fun h => ?_) | refine ite2 (fun h => ?_) (fun h => ?_)))
local macro_rules | `(tactic| walk_at "pu") => `(tactic| repeat (first | assumption | refine purse_new ?_ (by assumption)))
local macro_rules | `(tactic| walk_at "mv") => `(tactic| repeat (first | assumption | exact Mv.rf _ _ | refine Mv.nw ?_ (by assumption) | refine Mv.tr ?_ (by assumption)))

variable {P : Program} {w : World} {K : PySem.W.Frag} {mg : Str → Option Value} {base : Heap} {D : Ad}
/-! ### _law_sight_right -/
theorem LandAt.mv {H H' : Hp} {s p : Addr} {L : Lnd} {n : Nat} (h : LandAt D H s L) (hp : PurseAt H p n) (m : Mv p H H') (hnf : L.nf ≤ 2) : LandAt D H' s L := by
  obtain ⟨a, b, c, hpl, _⟩ := hp
  have t : Tst H H' := mv_tst m
  refine ⟨m _ _ h.ins (fun _ _ z => by cases z), ?_, h.cok, h.laid.mono t, h.eok, h.elen, ?_, ?_, m _ _ h.shelf (fun _ _ z => by cases z), h.pf, h.pc, h.fc⟩
  · obtain ⟨us, h1, h2⟩ := h.code
    refine ⟨us, m _ _ h1 fun e l z => ?_, pair_tst t h2⟩
    rw [e, hpl] at h1
    cases h1
    obtain ⟨_, _, z, _⟩ := paired_all h2 (V.int a) (by simp)
    cases z
  · obtain ⟨us, h1, h2, h3⟩ := h.past
    refine ⟨us, m _ _ h1 fun e l z => ?_, h2, past_pair t h3⟩
    rw [e, hpl] at h1
    cases h1
    obtain ⟨_, _, z, _⟩ := paired_all h3 (V.int a) (by simp)
    cases z
  · obtain ⟨us, h1, h2⟩ := h.fut
    refine ⟨us, m _ _ h1 fun e l z => ?_, h2⟩
    rw [e, hpl] at h1
    cases h1
    simp at h2
    omega
def sd (u v : Int) : Int := (if u < 0 then -u else u) + (if v < 0 then -v else v)
theorem sd_le {x z α β t t' : Int} (hd : DirOk α β) (h1 : 1 ≤ t) (h2 : t ≤ t') : sd (x + t * α - x) (z + t * β - z) ≤ sd (x + t' * α - x) (z + t' * β - z) := by
  obtain ⟨a, b, c, d, _⟩ := hd
  unfold sd
  rcases (show α = -1 ∨ α = 0 ∨ α = 1 by omega) with rfl | rfl | rfl <;> rcases (show β = -1 ∨ β = 0 ∨ β = 1 by omega) with rfl | rfl | rfl <;> (split <;> split <;> split <;> split <;> omega)
theorem so_sees : PyData.strOk "sees" = true := by decide +kernel
/-- what is told of a sight -/
def SeeR (H : Hp) (g : Int → Int) (far x1 z1 α β : Int) (r : Addr) : Prop :=
  (∃ (t : Int) (r2 : Addr), HidAt g far t ∧ Tp H r [.str "hidden", .ref r2] ∧ Tp H r2 [.int (x1 + t * α), .int (z1 + t * β)]) ∨ ∃ (m : Int) (r2 : Addr), RoomAt g far m ∧ Tp H r [.str "sees", .ref r2] ∧ Tp H r2 [.int (m / (Int.gcd m far : Int)), .int (far / (Int.gcd m far : Int))]
theorem SeeR.ex {H H' : Hp} {g : Int → Int} {far x1 z1 α β : Int} {r : Addr} (h : SeeR H g far x1 z1 α β r) (e : Ex H H') : SeeR H' g far x1 z1 α β r := by
  rcases h with ⟨t, r2, a, b, c⟩ | ⟨m, r2, a, b, c⟩
  · exact .inl ⟨t, r2, a, tp_ex e b, tp_ex e c⟩
  · exact .inr ⟨m, r2, a, tp_ex e b, tp_ex e c⟩
theorem pickD {t1 t2 t3 t4 t5 : Addr} {H : Hp} {r : Int} (h0 : 0 ≤ r) (h1 : r < 5) (k1 : Tp H t1 [.int 1, .int 0]) (k2 : Tp H t2 [.int 0, .int 1]) (k3 : Tp H t3 [.int 1, .int 1]) (k4 : Tp H t4 [.int 1, .int (-1)]) (k5 : Tp H t5 [.int (-1), .int 0]) :
    ∃ (t : Addr) (α β : Int), atI [V.ref t1, .ref t2, .ref t3, .ref t4, .ref t5] r = some (.ref t) ∧ Tp H t [.int α, .int β] ∧ DirOk α β := by
  rcases (show r = 0 ∨ r = 1 ∨ r = 2 ∨ r = 3 ∨ r = 4 by omega) with rfl | rfl | rfl | rfl | rfl
  · exact ⟨_, _, _, rfl, k1, by unfold DirOk; omega⟩
  · exact ⟨_, _, _, rfl, k2, by unfold DirOk; omega⟩
  · exact ⟨_, _, _, rfl, k3, by unfold DirOk; omega⟩
  · exact ⟨_, _, _, rfl, k4, by unfold DirOk; omega⟩
  · exact ⟨_, _, _, rfl, k5, by unfold DirOk; omega⟩
def spSight : Ad → Sp := fun D vs H Q _ => ∃ (p s : Addr) (n : Nat) (L : Lnd), vs = [.ref p, .ref s] ∧ PurseAt H p n ∧ n < 2 ^ 50 ∧ LandAt D H s L ∧ L.nf ≤ 2 ∧ ∀ H', PurseAt H' p (n + 5) → Mv p H H' → Q (.bl true) H'
theorem h_sight (F : DefAt K mg "_law_sight_right" s__law_sight_right [] []) (T : Txt K w mg D) (G_law_draw : Has P w K mg base 2 "_law_draw" spDraw []) (G_sees_k : HasK P w K mg base 28 "sees" (spSees K D) 3 ["eye"] gApp) : Has P w K mg base 29 "_law_sight_right" (spSight D) [] := by
  refine has_of F sc__law_sight_right (fun _ _ _ _ _ _ us hl => match us, hl with | [_, _], _ => rfl) ?_ ?_
  · rintro _ _ _ _ ⟨_, _, _, _, rfl, _⟩; rfl
  · rintro f cdv A outer s0 H vs Q E hr ⟨p, s, n, L, rfl, hp, hn, hL, hnf, kk⟩
    have hu := hu_of hr
    refine ⟨_, pss_cons (ps_asg (pe_lc (own := [("_law_k", 16)]) (g := (gName 16)) rfl sc__law_sight_right.nd (pi_range1 (by rfl) T.f_range (pa_cons (pe_int) (pa_nil))) (blkOk_by (own := [("_law_k", 16)]) (N := nm__law_sight_right) (sc := defScope s__law_sight_right) (by decide +kernel)) (fun _ _ _ _ _ => pg_name (i := 16) sc__law_sight_right.nd rfl (Or.inl rfl)) (fun _ _ _ _ _ => pts_nil) (fun _ _ _ _ _ => pe_op op_sub (pe_c G_law_draw (hr.mono (by decide)) (by rfl) (pa_cons (pv 0) (pa_cons (pe_int) (pa_nil)))) (pe_int))) (pg_unl rfl (pgs_cons (pg_name (i := 2) sc__law_sight_right.nd rfl (Or.inr rfl)) (pgs_cons (pg_name (i := 3) sc__law_sight_right.nd rfl (Or.inr rfl)) (pgs_nil)))))
      (pss_cons (ps_set (i := 4) sc__law_sight_right.nd rfl (Or.inl rfl) (pe_op op_add (pe_int) (pe_c G_law_draw (hr.mono (by decide)) (by rfl) (pa_cons (pv 0) (pa_cons (pe_int) (pa_nil))))))
      (pss_cons (ps_asg (pe_ix ix_list (pe_lst (pa_cons (pe_tup (pa_cons (pe_int) (pa_cons (pe_int) (pa_nil)))) (pa_cons (pe_tup (pa_cons (pe_int) (pa_cons (pe_int) (pa_nil)))) (pa_cons (pe_tup (pa_cons (pe_int) (pa_cons (pe_int) (pa_nil)))) (pa_cons (pe_tup (pa_cons (pe_int) (pa_cons (pe_un un_neg (pe_int)) (pa_nil)))) (pa_cons (pe_tup (pa_cons (pe_un un_neg (pe_int)) (pa_cons (pe_int) (pa_nil)))) (pa_nil))))))) (pe_c G_law_draw (hr.mono (by decide)) (by rfl) (pa_cons (pv 0) (pa_cons (pe_int) (pa_nil)))) (fun _ _ => rfl)) (pg_tup rfl (pgs_cons (pg_name (i := 5) sc__law_sight_right.nd rfl (Or.inl rfl)) (pgs_cons (pg_name (i := 6) sc__law_sight_right.nd rfl (Or.inl rfl)) (pgs_nil)))))
      (pss_cons (ps_par (i := 7) (j := 8) (by rfl) sc__law_sight_right.nd rfl rfl (by decide) rfl rfl (pa_cons (pe_tup (pa_cons (pv 2) (pa_cons (pv 3) (pa_nil)))) (pa_cons (pe_tup (pa_cons (pe_op op_add (pv 2) (pe_op op_mul (pv 4) (pv 5))) (pa_cons (pe_op op_add (pv 3) (pe_op op_mul (pv 4) (pv 6))) (pa_nil)))) pa_nil)) (by rfl))
      (pss_cons (ps_for PassesOwn.never rfl (pi_list (pe_lst (pa_cons (pe_int) (pa_cons (pe_int) (pa_cons (pe_c G_law_draw (hr.mono (by decide)) (by rfl) (pa_cons (pv 0) (pa_cons (pe_int) (pa_nil)))) (pa_nil)))))) (pg_name (i := 9) sc__law_sight_right.nd rfl (Or.inl rfl)) (pss_cons (ps_set (i := 10) sc__law_sight_right.nd rfl (Or.inl rfl) (pe_ck G_sees_k (hr.mono (by decide)) (by rfl) (pa_cons (pv 1) (pa_cons (pv 7) (pa_cons (pv 8) (pa_nil)))) (pk_cons (pv 9) (pk_nil))))
      (pss_cons (ps_set (i := 11) sc__law_sight_right.nd rfl (Or.inl rfl) (pe_ck G_sees_k (hr.mono (by decide)) (by rfl) (pa_cons (pv 1) (pa_cons (pv 8) (pa_cons (pv 7) (pa_nil)))) (pk_cons (pv 9) (pk_nil))))
      (pss_cons (ps_if (PW.pt (pw_or (pt_cmpR op_ne (pe_ix ix_tup (pv 10) (pe_int) (fun _ _ => rfl)) (pe_ix ix_tup (pv 11) (pe_int) (fun _ _ => rfl)) (nomark _)) (pw_or1 (PW.pt (pw_and (pt_cmpR op_eq (pe_ix ix_tup (pv 10) (pe_int) (fun _ _ => rfl)) (pe_str) (nomark _)) (pw_and1 (pt_cmpR (op_neD hr.units) (pv 10) (pv 11) (nomark _)))))))) (pss_one (ps_ret (pe_bl))) (pss_nil))
      (pss_cons (ps_set (i := 12) sc__law_sight_right.nd rfl (Or.inl rfl) (pe_ck G_sees_k (hr.mono (by decide)) (by rfl) (pa_cons (pv 1) (pa_cons (pv 7) (pa_cons (pv 8) (pa_nil)))) (pk_cons (pe_op op_add (pv 9) (pe_int)) (pk_nil))))
      (pss_one (ps_if (pt_cmpR op_eq (pe_ix ix_tup (pv 10) (pe_int) (fun _ _ => rfl)) (pe_str) (nomark _)) (pss_cons (ps_asg (pe_ix ix_tup (pv 10) (pe_int) (fun _ _ => rfl)) (pg_tup rfl (pgs_cons (pg_name (i := 13) sc__law_sight_right.nd rfl (Or.inl rfl)) (pgs_cons (pg_name (i := 14) sc__law_sight_right.nd rfl (Or.inl rfl)) (pgs_nil)))))
      (pss_one (ps_if (pt_cmpR (op_neD hr.units) (pv 12) (pe_tup (pa_cons (pe_str) (pa_cons (pe_tup (pa_cons (pe_op op_add (pv 13) (pe_op op_mul (pe_int) (pv 14))) (pa_cons (pv 14) (pa_nil)))) (pa_nil)))) (nomark _)) (pss_one (ps_ret (pe_bl))) (pss_nil)))) (pss_one (ps_if (pt_cmpR op_eq (pe_ix ix_tup (pv 12) (pe_int) (fun _ _ => rfl)) (pe_str) (nomark _)) (pss_cons (ps_setLc (i := 15) (own := [("_law_spot_here", 17)]) (g := (gName 17)) rfl sc__law_sight_right.nd rfl rfl (sw_true rfl rfl rfl (by decide +kernel)) (pi_list (pe_lst (pa_cons (pe_ix ix_tup (pv 12) (pe_int) (fun _ _ => rfl)) (pa_cons (pe_ix ix_tup (pv 10) (pe_int) (fun _ _ => rfl)) (pa_nil))))) (blkOk_by (own := [("_law_spot_here", 17)]) (N := nm__law_sight_right) (sc := defScope s__law_sight_right) (by decide +kernel)) (fun _ _ _ _ _ => pg_name (i := 17) sc__law_sight_right.nd rfl (Or.inl rfl)) (fun _ _ _ _ _ => pts_nil) (fun _ _ _ _ _ => pe_op op_add (pe_callB call_abs (by rfl) T.f_abs bt_abs (pa_cons (pe_op op_sub (pe_ix (show IxR _ (rIxT K) from ix_tup) (pv 17) (pe_int) (fun _ _ => rfl)) (pv 2)) (pa_nil))) (pe_callB call_abs (by rfl) T.f_abs bt_abs (pa_cons (pe_op op_sub (pe_ix (show IxR _ (rIxT K) from ix_tup) (pv 17) (pe_int) (fun _ _ => rfl)) (pv 3)) (pa_nil)))))
      (pss_one (ps_if (pt_cmpR op_lt (pe_ix ix_list (pv 15) (pe_int) (fun _ _ => rfl)) (pe_ix ix_list (pv 15) (pe_int) (fun _ _ => rfl)) (nomark _)) (pss_one (ps_ret (pe_bl))) (pss_nil)))) (pss_nil))))))))))
      (pss_one (ps_ret (pe_bl))))))), ?_⟩
    -- x, z
    refine seq_x (fun σ H' => Here (∃ x z : Int, -20 ≤ x ∧ x ≤ 19 ∧ -20 ≤ z ∧ z ≤ 19 ∧ PurseAt H' p (n + 2) ∧ Mv p H H' ∧ σ = [some (.ref p), some (.ref s), some (.int x), some (.int z), none, none, none, none, none, none, none, none, none, none, none, none, none, none])) ?_ (fun nx hnx => ?_)
    rotate_left
    · walk_at "rd"
      rename_i l hl
      have hlp := purse_ne hp hl
      refine lw_range (fun i H' => Here (∃ vs : List Int, PurseAt H' p (n + i) ∧ Mv p H H' ∧ H' l = some (.lst (vs.map V.int)) ∧ vs.length = i ∧ ∀ v ∈ vs, -20 ≤ v ∧ v ≤ 19)) (.it ⟨[], purse_new hp hl, (Mv.rf p H).nw hl, upd_same, rfl, fun _ h => (nomatch h)⟩) ?_ ?_
      · intro i H' hi hh
        have hi2 : i < 2 := hi
        obtain ⟨us, hp1, m1, hl1, hlen, hb⟩ := hh.get
        walk_at "rd"
        refine ⟨p, 40, n + i, rfl, hp1, by omega, by omega, by omega, fun r H1 r0 r1 hp2 hm2 => ?_⟩
        have hl2 := hm2 l _ hl1 fun e => absurd e hlp
        walk_at "rd"
        refine ⟨us.map V.int, hl2, Evl.sz_lt (by rw [List.length_map]; omega), .it ⟨us ++ [r - 20], purse_upd hp2 hlp, (m1.tr hm2).mu hl, by rw [List.map_append]; exact upd_same, by simp [hlen], fun v hv => ?_⟩⟩
        rcases List.mem_append.mp hv with h | h
        · exact hb v h
        · rw [List.mem_singleton.mp h]; omega
      · intro H' hh
        obtain ⟨us, hp1, m1, hl1, hlen, hb⟩ := hh.get
        have hlen2 : us.length = 2 := hlen
        obtain ⟨x, z, rfl⟩ : ∃ x z, us = [x, z] := by
          match us, hlen2 with
          | [x, z], _ => exact ⟨x, z, rfl⟩
        have hx := hb x (by simp)
        have hz := hb z (by simp)
        have hsl := Evl.sq_of (K := K) hl1
        walk_at "rd"
        exact hnx _ _ (.it ⟨x, z, hx.1, hx.2, hz.1, hz.2, hp1, m1, rfl⟩)
    intro σ H1 hh
    obtain ⟨x, z, hx1, hx2, hz1, hz2, hp1, m1, rfl⟩ := hh.get
    clear hh
    -- far
    refine seq_x (fun σ H' => Here (∃ far : Int, 2 ≤ far ∧ far ≤ 13 ∧ PurseAt H' p (n + 3) ∧ Mv p H H' ∧ σ = [some (.ref p), some (.ref s), some (.int x), some (.int z), some (.int far), none, none, none, none, none, none, none, none, none, none, none, none, none])) ?_ (fun nx hnx => ?_)
    rotate_left
    · walk_at "rd"
      refine ⟨p, 12, n + 2, rfl, hp1, by omega, by omega, by omega, fun r H2 r0 r1 hp2 hm2 => ?_⟩
      walk_at "rd"
      exact hnx _ _ (.it ⟨2 + r, by omega, by omega, hp2, m1.tr hm2, rfl⟩)
    intro σ H2 hh
    obtain ⟨far, hf2, hf13, hp2, m2, rfl⟩ := hh.get
    clear hh hp1 m1
    -- wide, deep
    refine seq_x (fun σ H' => Here (∃ α β : Int, DirOk α β ∧ PurseAt H' p (n + 4) ∧ Mv p H H' ∧ σ = [some (.ref p), some (.ref s), some (.int x), some (.int z), some (.int far), some (.int α), some (.int β), none, none, none, none, none, none, none, none, none, none, none])) ?_ (fun nx hnx => ?_)
    rotate_left
    · walk_at "rd"
      rename_i t1 ht1 t2 ht2 t3 ht3 t4 ht4 t5 ht5 l hl
      have hlp := purse_ne (purse_new (purse_new (purse_new (purse_new (purse_new hp2 ht1) ht2) ht3) ht4) ht5) hl
      refine ⟨p, 5, n + 3, rfl, by walk_at "pu", by omega, by omega, by omega, fun r H3 r0 r1 hp3 hm3 => ?_⟩
      have hl3 := hm3 l _ upd_same fun e => absurd e hlp
      have hm : Mv p H H3 := ((((((m2.nw ht1).nw ht2).nw ht3).nw ht4).nw ht5).nw hl).tr hm3
      obtain ⟨t, α, β, ha, ht, hd⟩ := pickD r0 r1 (tp_mv hm3 (tp_new hl (tp_new ht5 (tp_new ht4 (tp_new ht3 (tp_new ht2 tp_up)))))) (tp_mv hm3 (tp_new hl (tp_new ht5 (tp_new ht4 (tp_new ht3 tp_up))))) (tp_mv hm3 (tp_new hl (tp_new ht5 (tp_new ht4 tp_up)))) (tp_mv hm3 (tp_new hl (tp_new ht5 tp_up))) (tp_mv hm3 (tp_new hl tp_up))
      refine ⟨_, _, _, _, rfl, rfl, Evl.sq_of hl3, ha, ?_⟩
      walk_at "rd"
      exact hnx _ _ (.it ⟨α, β, hd, hp3, hm, rfl⟩)
    intro σ H3 hh
    obtain ⟨α, β, hdir, hp3, m3, rfl⟩ := hh.get
    clear hh hp2 m2
    -- one, other
    refine seq_x (fun σ H' => Here (∃ o1 o2, PurseAt H' p (n + 4) ∧ Mv p H H' ∧ Tp H' o1 [.int x, .int z] ∧ Tp H' o2 [.int (x + far * α), .int (z + far * β)] ∧ σ = [some (.ref p), some (.ref s), some (.int x), some (.int z), some (.int far), some (.int α), some (.int β), some (.ref o1), some (.ref o2), none, none, none, none, none, none, none, none, none])) ?_ (fun nx hnx => ?_)
    rotate_left
    · walk_at "rd"
      rename_i o1 ho1 o2 ho2
      exact hnx _ _ (.it ⟨o1, o2, purse_new (purse_new hp3 ho1) ho2, (m3.nw ho1).nw ho2, tp_new ho2 tp_up, tp_up, rfl⟩)
    intro σ H4 hh
    obtain ⟨o1, o2, hp4, m4, ho1, ho2, rfl⟩ := hh.get
    clear hh hp3 m3
    -- the eyes
    have hL4 := hL.mv hp m4 hnf
    obtain ⟨hd1, hd2, hd3, hd4, hd5⟩ := id hdir
    have hfa : -13 ≤ far * α ∧ far * α ≤ 13 := by
      rcases (show α = -1 ∨ α = 0 ∨ α = 1 by omega) with rfl | rfl | rfl <;> omega
    have hfb : -13 ≤ far * β ∧ far * β ≤ 13 := by
      rcases (show β = -1 ∨ β = 0 ∨ β = 1 by omega) with rfl | rfl | rfl <;> omega
    walk_at "rd"
    refine ⟨p, 60, n + 4, rfl, hp4, by omega, by omega, by omega, fun r H5 r0 r1 hp5 hm5 => ?_⟩
    walk_at "rd"
    rename_i l hl
    have eL : Ex H5 (upd H5 l (.lst [.int 0, .int 2, .int r])) := (Ex.rfl' H5).nw hl
    have hL5 := (hL4.mv hp4 hm5 hnf).ex eL
    have hpB := purse_new (o := .lst [.int 0, .int 2, .int r]) hp5 hl
    have m5 := (m4.tr hm5).nw (o := .lst [.int 0, .int 2, .int r]) hl
    have ho1B := tp_ex eL (tp_mv hm5 ho1)
    have ho2B := tp_ex eL (tp_mv hm5 ho2)
    have hlB : (upd H5 l (.lst [.int 0, .int 2, .int r])) l = some (.lst [.int 0, .int 2, .int r]) := upd_same
    clear hp5 hm5 hL4 ho1 ho2 hp4 m4 eL
    generalize upd H5 l (.lst [.int 0, .int 2, .int r]) = HB at *
    clear hl
    refine ⟨⟨_, Evl.sq_of hlB⟩, ?_⟩
    refine for_list (K := K) (a := l) (xs := [.int 0, .int 2, .int r]) (fun i σ H' => Here (Ex HB H' ∧ ∃ r9 r10 r11 r12 r13 r14 r15 r16 r17, σ = [some (.ref p), some (.ref s), some (.int x), some (.int z), some (.int far), some (.int α), some (.int β), some (.ref o1), some (.ref o2), r9, r10, r11, r12, r13, r14, r15, r16, r17])) (.it ⟨Ex.rfl' _, none, none, none, none, none, none, none, none, none, rfl⟩) (fun i σ H' _ hh => sl_ex hh.get.1 (Evl.sq_of hlB)) ?_ ?_
    rotate_left
    · intro σ H' hh
      obtain ⟨he, r9, r10, r11, r12, r13, r14, r15, r16, r17, rfl⟩ := hh.get
      walk_at "rd"
      exact kk _ (purse_ex hpB he) (m5.tr (.ex he))
    intro i u σ H' hu' hh
    obtain ⟨he, r9, r10, r11, r12, r13, r14, r15, r16, r17, rfl⟩ := hh.get
    clear hh
    obtain ⟨e, rfl, he0, he1⟩ : ∃ e : Int, u = .int e ∧ 0 ≤ e ∧ e ≤ 59 := by
      match i, hu' with
      | 0, h => exact ⟨0, (Option.some.inj h).symm, by omega, by omega⟩
      | 1, h => exact ⟨2, (Option.some.inj h).symm, by omega, by omega⟩
      | 2, h => exact ⟨r, (Option.some.inj h).symm, by omega, by omega⟩
    clear hu'
    have hc1 : x + far * α + far * -α = x := by rw [Int.mul_neg]; omega
    have hc2 : z + far * β + far * -β = z := by rw [Int.mul_neg]; omega
    have hdirn : DirOk (-α) (-β) := by unfold DirOk; omega
    have hgb : ∀ t, lft L.h (x + far * α) (z + far * β) (-α) (-β) far e t = lft L.h x z α β far e (far - t) := fun t => lft_back L.h x z α β far e t
    have hge : ∀ t, lft L.h x z α β far (e + 5) t = lft L.h x z α β far e t + 5 * far := fun t => lft_eye L.h x z α β far e t
    have hLh := hL5.ex he
    have ho1h := tp_ex he ho1B
    have ho2h := tp_ex he ho2B
    -- there
    refine seq_x (fun σ H' => Here (∃ a10, Ex HB H' ∧ SeeR H' (lft L.h x z α β far e) far x z α β a10 ∧ σ = [some (.ref p), some (.ref s), some (.int x), some (.int z), some (.int far), some (.int α), some (.int β), some (.ref o1), some (.ref o2), some (.int e), some (.ref a10), r11, r12, r13, r14, r15, r16, r17])) ?_ (fun nx hnx => ?_)
    rotate_left
    · walk_at "rd"
      refine ⟨s, o1, o2, L, x, z, α, β, far, e, rfl, hLh, ho1h, ho2h, hdir, hf2, by omega, by omega, by omega, by omega, by omega, he0, by omega, fun H2 t a10 r2 e2 h1 h2 h3 => ?_, fun H2 m a10 r2 e2 h1 h2 h3 => ?_⟩
      · walk_at "rd"
        exact hnx _ _ (.it ⟨a10, he.tr e2, .inl ⟨t, r2, h1, h2, h3⟩, rfl⟩)
      · walk_at "rd"
        exact hnx _ _ (.it ⟨a10, he.tr e2, .inr ⟨m, r2, h1, h2, h3⟩, rfl⟩)
    clear he hLh ho1h ho2h
    intro σ H6 hh
    obtain ⟨a10, he, hs10, rfl⟩ := hh.get
    clear hh
    have hLh := hL5.ex he
    have ho1h := tp_ex he ho1B
    have ho2h := tp_ex he ho2B
    -- back
    refine seq_x (fun σ H' => Here (∃ a11, Ex HB H' ∧ SeeR H' (lft L.h x z α β far e) far x z α β a10 ∧ SeeR H' (lft L.h (x + far * α) (z + far * β) (-α) (-β) far e) far (x + far * α) (z + far * β) (-α) (-β) a11 ∧ σ = [some (.ref p), some (.ref s), some (.int x), some (.int z), some (.int far), some (.int α), some (.int β), some (.ref o1), some (.ref o2), some (.int e), some (.ref a10), some (.ref a11), r12, r13, r14, r15, r16, r17])) ?_ (fun nx hnx => ?_)
    rotate_left
    · walk_at "rd"
      refine ⟨s, o2, o1, L, x + far * α, z + far * β, -α, -β, far, e, rfl, hLh, ho2h, by rw [hc1, hc2]; exact ho1h, hdirn, hf2, by omega, by omega, by omega, by omega, by omega, he0, by omega, fun H2 t a11 r2 e2 h1 h2 h3 => ?_, fun H2 m a11 r2 e2 h1 h2 h3 => ?_⟩
      · walk_at "rd"
        exact hnx _ _ (.it ⟨a11, he.tr e2, hs10.ex e2, .inl ⟨t, r2, h1, h2, h3⟩, rfl⟩)
      · walk_at "rd"
        exact hnx _ _ (.it ⟨a11, he.tr e2, hs10.ex e2, .inr ⟨m, r2, h1, h2, h3⟩, rfl⟩)
    clear he hLh ho1h ho2h hs10
    intro σ H7 hh
    obtain ⟨a11, he, hs10, hs11, rfl⟩ := hh.get
    clear hh
    -- alike
    refine seq_x (fun σ H' => Here (H' = H7 ∧ σ = [some (.ref p), some (.ref s), some (.int x), some (.int z), some (.int far), some (.int α), some (.int β), some (.ref o1), some (.ref o2), some (.int e), some (.ref a10), some (.ref a11), r12, r13, r14, r15, r16, r17])) ?_ (fun nx hnx => ?_)
    rotate_left
    · rcases hs10 with ⟨t, r2, h1, h2, h3⟩ | ⟨m, r2, h1, h2, h3⟩
      · rcases hs11 with ⟨t', r2', h1', h2', h3'⟩ | ⟨m', r2', h1', h2', h3'⟩
        · walk_at "rd"
          exact hnx _ _ (.it ⟨rfl, rfl⟩)
        · exact absurd (h1.back_no h1' hgb) id
      · rcases hs11 with ⟨t', r2', h1', h2', h3'⟩ | ⟨m', r2', h1', h2', h3'⟩
        · exact absurd (h1'.back_no h1 fun t => by rw [hgb, show far - (far - t) = t by omega]) id
        · obtain rfl : m' = m := (h1.back hgb).uniq h1' fun _ _ _ => rfl
          walk_at "rd"
          have hd1 := dat_2 (K := K) (n := 1) h2 (dat_str so_sees) (dat_2 (n := 0) h3 (dat_int _) (dat_int _))
          have hd2 := dat_2 (K := K) (n := 1) h2' (dat_str so_sees) (dat_2 (n := 0) h3' (dat_int _) (dat_int _))
          refine ⟨_, _, hd1.dp, hd2.dp, hd1.shp (by decide), hd2.shp (by decide), ?_⟩
          rw [show ∀ u v : Int, PyData.eqv (.tuple [.str "sees", .tuple [.int u, .int v]]) (.tuple [.str "sees", .tuple [.int u, .int v]]) = true from fun u v => by simp [PyData.eqv, PyData.eqvAll]]
          walk_at "rd"
          exact hnx _ _ (.it ⟨rfl, rfl⟩)
    intro σ H8 hh
    obtain ⟨rfl, rfl⟩ := hh.get
    clear hh hs11
    have hLh := hL5.ex he
    have ho1h := tp_ex he ho1B
    have ho2h := tp_ex he ho2B
    -- more
    refine seq_x (fun σ H' => Here (∃ a12, Ex HB H' ∧ SeeR H' (lft L.h x z α β far e) far x z α β a10 ∧ SeeR H' (lft L.h x z α β far (e + 5)) far x z α β a12 ∧ σ = [some (.ref p), some (.ref s), some (.int x), some (.int z), some (.int far), some (.int α), some (.int β), some (.ref o1), some (.ref o2), some (.int e), some (.ref a10), some (.ref a11), some (.ref a12), r13, r14, r15, r16, r17])) ?_ (fun nx hnx => ?_)
    rotate_left
    · walk_at "rd"
      refine ⟨s, o1, o2, L, x, z, α, β, far, e + 5, rfl, hLh, ho1h, ho2h, hdir, hf2, by omega, by omega, by omega, by omega, by omega, by omega, by omega, fun H2 t a12 r2 e2 h1 h2 h3 => ?_, fun H2 m a12 r2 e2 h1 h2 h3 => ?_⟩
      · walk_at "rd"
        exact hnx _ _ (.it ⟨a12, he.tr e2, hs10.ex e2, .inl ⟨t, r2, h1, h2, h3⟩, rfl⟩)
      · walk_at "rd"
        exact hnx _ _ (.it ⟨a12, he.tr e2, hs10.ex e2, .inr ⟨m, r2, h1, h2, h3⟩, rfl⟩)
    clear he hLh ho1h ho2h hs10
    intro σ H9 hh
    obtain ⟨a12, he, hs10, hs12, rfl⟩ := hh.get
    clear hh
    rcases hs10 with ⟨t, r2, h1, h2, h3⟩ | ⟨m, r2, h1, h2, h3⟩
    · rcases hs12 with ⟨t', r2', h1', h2', h3'⟩ | ⟨m', r2', h1', h2', h3'⟩
      · have htt := h1.eye_le h1' (by omega) hge
        walk_at "rd"
        rename_i l2 hl2
        have e9 : Ex H9 (upd H9 l2 (.lst [V.ref r2', V.ref r2])) := (Ex.rfl' H9).nw hl2
        have q1 := tp_ex e9 h3
        have q2 := tp_ex e9 h3'
        have ql : (upd H9 l2 (.lst [V.ref r2', V.ref r2])) l2 = some (.lst [V.ref r2', V.ref r2]) := upd_same
        have heA := he.tr e9
        have hle := sd_le (x := x) (z := z) hdir h1.1 htt
        clear h1 h2 h3 h1' h2' h3' he htt e9
        generalize upd H9 l2 (.lst [V.ref r2', V.ref r2]) = HA at *
        clear hl2
        refine ⟨⟨_, Evl.sq_of ql⟩, ?_⟩
        intro dd hdd
        refine lw_list (K := K) (a := l2) (xs := [V.ref r2', V.ref r2]) (fun i H'' => Here (Ex HA H'' ∧ H'' dd = some (.lst ([V.int (sd (x + t' * α - x) (z + t' * β - z)), .int (sd (x + t * α - x) (z + t * β - z))].take i)))) (.it ⟨Ex.nw (Ex.rfl' _) hdd, upd_same⟩) (fun i H'' _ hh => sl_ex hh.get.1 (Evl.sq_of ql)) ?_ ?_
        · intro i u H'' hu2 hh2
          obtain ⟨he2, hdl⟩ := hh2.get
          obtain ⟨r0, t0, rfl, hr0, hvi⟩ : ∃ (r0 : Addr) (t0 : Int), u = .ref r0 ∧ Tp HA r0 [.int (x + t0 * α), .int (z + t0 * β)] ∧ [V.int (sd (x + t' * α - x) (z + t' * β - z)), .int (sd (x + t * α - x) (z + t * β - z))][i]? = some (V.int (sd (x + t0 * α - x) (z + t0 * β - z))) := by
            match i, hu2 with
            | 0, h => exact ⟨r2', t', (Option.some.inj h).symm, q2, rfl⟩
            | 1, h => exact ⟨r2, t, (Option.some.inj h).symm, q1, rfl⟩
          have hr3 := tp_ex he2 hr0
          have hi2 : i < 2 := (List.getElem?_eq_some_iff.mp hu2).1
          clear hle
          walk_at "rd"
          refine ⟨_, hdl, Evl.sz_lt (by rw [List.length_take]; omega), .it ⟨he2.mu hdd, ?_⟩⟩
          rw [take_snoc hvi]
          exact upd_same
        · intro H'' hh2
          obtain ⟨he2, hdl⟩ := hh2.get
          have hdl2 : H'' dd = some (.lst [V.int (sd (x + t' * α - x) (z + t' * β - z)), .int (sd (x + t * α - x) (z + t * β - z))]) := hdl
          have hsl2 := Evl.sq_of (K := K) hdl2
          generalize sd (x + t' * α - x) (z + t' * β - z) = s5 at *
          generalize sd (x + t * α - x) (z + t * β - z) = s6 at *
          have heB := heA.tr he2
          clear hh2 hdl hdl2 he2 heA q1 q2 ql
          walk_at "rd"
          exact .it ⟨heB, _, _, _, _, _, _, _, _, _, rfl⟩
      · walk_at "rd"
        exact .it ⟨he, _, _, _, _, _, _, _, _, _, rfl⟩
    · rcases hs12 with ⟨t', r2', h1', h2', h3'⟩ | ⟨m', r2', h1', h2', h3'⟩
      · exact absurd (h1'.eye_no h1 (by omega) hge) id
      · obtain rfl : m' = m + 5 * far := (h1.eye (by omega) hge).uniq h1' fun _ _ _ => rfl
        rw [gcd_eye, room_eye (by omega)] at h3'
        walk_at "rd"
        rename_i u1 hu1 u2 hu2
        have eU : Ex H9 (upd (upd H9 u1 (.tup [.int (m / (Int.gcd m far : Int) + 5 * (far / (Int.gcd m far : Int))), .int (far / (Int.gcd m far : Int))])) u2 (.tup [.str "sees", .ref u1])) := ((Ex.rfl' H9).nw hu1).nw hu2
        have hda := (dat_2 (K := K) (n := 1) h2' (dat_str so_sees) (dat_2 (n := 0) h3' (dat_int _) (dat_int _))).mono eU
        have hdb : Dat K (upd (upd H9 u1 (.tup [.int (m / (Int.gcd m far : Int) + 5 * (far / (Int.gcd m far : Int))), .int (far / (Int.gcd m far : Int))])) u2 (.tup [.str "sees", .ref u1])) 2 (.ref u2) _ := dat_2 (n := 1) tp_up (dat_str so_sees) (dat_2 (n := 0) (tp_new hu2 tp_up) (dat_int _) (dat_int _))
        refine ⟨_, _, hda.dp, hdb.dp, hda.shp (by decide), hdb.shp (by decide), ?_⟩
        rw [show ∀ u v : Int, PyData.eqv (.tuple [.str "sees", .tuple [.int u, .int v]]) (.tuple [.str "sees", .tuple [.int u, .int v]]) = true from fun u v => by simp [PyData.eqv, PyData.eqvAll]]
        walk_at "rd"
        exact .it ⟨he.tr eU, _, _, _, _, _, _, _, _, _, rfl⟩

end Kw
set_option Elab.async false
set_option linter.all false
set_option maxRecDepth 100000
set_option maxHeartbeats 2000000
namespace Kw
open PySem PySem.Spec PyProof.Rows L2
local macro_rules | `(tactic| walk_at "in") => `(tactic| repeat (first | assumption | refine in_new (by assumption) ?_ | refine in_ex (by assumption) ?_))
local macro_rules | `(tactic| walk_at "lk") => `(tactic| first | exact lk_laid _ | exact lk_code _ | exact lk_grain _ | exact lk_past _ | exact lk_future _ | exact lk_shelf _ | exact lk_last _)
local macro_rules | `(tactic| walk_at "tp") => `(tactic| repeat (first | assumption | exact tp_up | refine tp_new (by assumption) ?_ | refine tp_lst (by assumption) ?_ | refine tp_ex (by assumption) ?_ | refine tp_mv (by assumption) ?_))
local macro_rules | `(tactic| walk_at "sq") => `(tactic| repeat (first | assumption | exact sq_up | exact sl_up | exact tp_sq (by assumption) | exact Evl.sq_of (by assumption) | refine sq_new (by assumption) ?_ | refine sl_new (by assumption) ?_ | refine sq_lst (by assumption) ?_ | refine sq_ex (by assumption) ?_ | refine sl_ex (by assumption) ?_ | refine sq_mv (by assumption) ?_))
local macro_rules | `(tactic| walk_at "ex") => `(tactic| repeat (first | assumption | exact Ex.rfl' _ | refine Ex.nw ?_ (by assumption) | refine Ex.tr ?_ (by assumption)))
local macro_rules | `(tactic| walk_at "cond") => `(tactic| first | decide | exact Or.inl ⟨by omega, by omega⟩ | exact Or.inr ⟨by omega, by omega⟩ | exact ⟨by omega, by omega⟩ | omega)
local macro_rules | `(tactic| walk_at "rd1") => `(tactic| first
  | refine ⟨_, rfl, ?_⟩
  | refine ⟨_, _, rfl, rfl, ?_⟩
  | refine ⟨_, _, rfl, ?_⟩
  | refine ⟨rfl, ?_⟩
  | refine ⟨_, _, _, rfl, ?_⟩
  | (refine' ⟨_, _, _, _, rfl, rfl, ?h, ?ha, ?q⟩; (case h => walk_at "sq"); (case ha => first | assumption | rfl | exact at_c0 _ _ | exact at_c1 _ _ _ | exact at_c2 _ _ _ _ | (refine at_vals ?_; omega) | exact atI_nat (by assumption)))
  | refine ⟨_, _, _, _, rfl, ?_⟩
  | refine ⟨_, _, _, _, _, rfl, ?_⟩
  | (refine' ⟨_, _, rfl, ?h, ?ha, ?q⟩; (case h => walk_at "sq"); (case ha => first | rfl | exact Nat.le_of_ble_eq_true rfl))
  | refine Or.inr ⟨_, rfl, ?_⟩
  | (refine' ⟨_, _, rfl, Or.inr ?h, ?q⟩; (case h => walk_at "sq"))
  | (refine' ⟨_, _, rfl, Or.inl ?h, ?q⟩; (case h => walk_at "sq"))
  | refine ⟨_, _, _, _, _, rfl, .ty _, .base (.int _), kit_ty kit_ii, ?_⟩
  | refine ⟨_, _, _, _, _, rfl, .ty _, .base (.int _), kit_ty kit_ib, ?_⟩
  | refine ⟨_, _, _, _, _, rfl, .ty _, .base (.str _), kit_ty kit_ss, ?_⟩
  | refine ⟨_, _, _, _, _, rfl, .ty _, .base (.tup (by assumption)), kit_ty kit_tt, ?_⟩
  | with_reducible refine iteT ?_
  | with_reducible refine iteF ?_
  | refine ite_yes (by first | decide | omega) ?_
  | refine ite_no (by first | decide | omega) ?_
  | refine ite_no (fun z => absurd (V.str.inj z) (by assumption)) ?_
  | refine ite_no (fun z => absurd (V.int.inj z) (by omega)) ?_
  | refine ite_yes (congrArg V.int (by omega)) ?_
  | refine ite_nyes (by first | decide | omega) ?_
  | refine ite_nno (by first | decide | omega) ?_
  | (refine' And.intro (Or.inl ⟨rfl, _, ?h⟩) ?q; (case h => first | exact SqL.of (by first | assumption | exact upd_same) | walk_at "sq"))
  | (refine' And.intro ?h ?q; (case h => exact Evl.sz_of (Nat.le_of_ble_eq_true rfl)))
  | refine fun p (hp : (_ : Hp) p = none) => ?_
  | (refine' ⟨_, _, rfl, Or.inr ?h, rfl, rfl, ?q⟩; (case h => walk_at "sq"))
  | (refine' ⟨_, _, rfl, Or.inl ?h, rfl, rfl, ?q⟩; (case h => walk_at "sq"))
  | (refine' ⟨_, _, _, _, _, rfl, ?h, ?c, ?n, ?l, ?q⟩; (case h => walk_at "in"); (case c => assumption); (case n => assumption); (case l => walk_at "lk"))
  | (refine' ⟨_, _, _, rfl, ?h, ?l, ?q⟩; (case h => walk_at "in"); (case l => exact lk_none (by decide) _))
  | (refine' And.intro ?h ?q; (case h => walk_at "cond")))
local macro_rules | `(tactic| walk_at "rd") => `(tactic| repeat walk_at "rd1")
local macro_rules | `(tactic| walk_at "rs") => `(tactic| repeat' (first | walk_at "rd1" | refine ite2d (fun h => ?_) (fun h => ?_) | refine ite2n (fun h => ?_) (fun h => ?_) | refine ite2 (fun h => ?_) (fun h => ?_)))
local macro_rules | `(tactic| walk_at "pu") => `(tactic| repeat (first | assumption | refine purse_new ?_ (by assumption)))
local macro_rules | `(tactic| walk_at "mv") => `(tactic| repeat (first | assumption | exact Mv.rf _ _ | refine Mv.nw ?_ (by assumption) | refine Mv.tr ?_ (by assumption)))

variable {P : Program} {w : World} {K : PySem.W.Frag} {mg : Str → Option Value} {base : Heap} {D : Ad}
/-! ### law -/
theorem Ex.mvf {p : Addr} {H H1 H2 : Hp} (e : Ex H H1) (m : Mv p H1 H2) (hp : H p = none) : Ex H H2 := fun b o hb => m b o (e b o hb) fun z => by rw [z, hp] at hb; cases hb
theorem Ex.frf {S : List Addr} {H H1 H2 : Hp} (e : Ex H H1) (f : Frs S H1 H2) (hS : ∀ b ∈ S, H b = none) : Ex H H2 := fun b o hb => f b o (e b o hb) fun z => by rw [hS b z] at hb; cases hb
theorem purse_frs {S : List Addr} {H H' : Hp} {p : Addr} {n : Nat} (h : PurseAt H p n) (f : Frs S H H') (hp : p ∉ S) : PurseAt H' p n := by
  obtain ⟨a, b, c, h1, h2⟩ := h
  exact ⟨a, b, c, f _ _ h1 hp, h2⟩
/-- the purse is no part of the land -/
theorem purse_out {H : Hp} {s p : Addr} {L : Lnd} {n : Nat} (h : LandAt D H s L) (hp : PurseAt H p n) (hnf : L.nf ≤ 2) : p ∉ LS s L := by
  obtain ⟨a, b, c, hpl, _⟩ := hp
  intro hm
  unfold LS at hm
  simp only [List.mem_cons, List.not_mem_nil, or_false] at hm
  rcases hm with e | e | e | e
  · rw [e, h.ins] at hpl; cases hpl
  · obtain ⟨us, h1, h2, h3⟩ := h.past
    rw [e, h1] at hpl
    cases hpl
    obtain ⟨_, _, z, _⟩ := paired_all h3 (V.int a) (by simp)
    cases z
  · obtain ⟨us, h1, h2⟩ := h.fut
    rw [e, h1] at hpl
    cases hpl
    simp at h2
    omega
  · rw [e, h.shelf] at hpl; cases hpl
def spLaw (K : PySem.W.Frag) : Sp := fun vs H Q _ => ∃ (a : Addr) (ns : List Int), vs = [.ref a] ∧ SqL K H a (ns.map V.int) ∧ ns.length ≤ 63 ∧ ∀ H', Q (.bl true) H'
theorem h_law (F : DefAt K mg "law" s_law [] []) (T : Txt K w mg D) (G_law_purse : Has P w K mg base 2 "_law_purse" (spPurse K) []) (G_law_rules : Has P w K mg base 5 "_law_rules" (spDrawn 2) []) (G_law_draw : Has P w K mg base 2 "_law_draw" spDraw []) (G_law_box : Has P w K mg base 3 "_law_box" spBox []) (G_Land : HasC P w K mg base 12 "Land" D.C (spInit D) [.int 64])
    (G_law_edits : Has P w K mg base 3 "_law_edits" spEdits []) (G_edit : HasM P w K mg base 4 D.C "edit" (spEditM D)) (G_law_spot : Has P w K mg base 3 "_law_spot" (spSpot K) []) (G_law_levels_right : Has P w K mg base 29 "_law_levels_right" (spLR D) []) (G_law_shuts_right : Has P w K mg base 29 "_law_shuts_right" (spSR D) []) (G_law_sight_right : Has P w K mg base 29 "_law_sight_right" (spSight D) []) : ∃ f fd, mg "law" = some (.ref f) ∧ FunD K "law" "law" (defArgs s_law) (defBody s_law) (defScope s_law) [] [] f fd ∧ FnOk P w K mg base CX0 30 f fd ["_law_script"] (spLaw K) := by
  obtain ⟨f, fd, hm, FD⟩ := F.ex
  refine ⟨f, fd, hm, FD, fok_of FD sc_law ?_ ?_⟩
  · rintro _ _ _ _ ⟨_, _, rfl, _⟩; rfl
  · rintro f cdv A outer s0 H vs Q E hr ⟨a, ns, rfl, ha, hnl, kk⟩
    have hu := hu_of hr
    refine ⟨_, pss_cons (ps_for PassesOwn.never rfl (pi_range1 (by rfl) T.f_range (pa_cons (pe_callB (call_max2 rfl) (by rfl) T.f_max bt_max (pa_cons (pe_int) (pa_cons (pe_callB call_len_seq (by rfl) T.f_len bt_len (pa_cons (pe_slice sl_list (pv 0) (po_none) (po_some (pe_int))) (pa_nil))) (pa_nil)))) (pa_nil))) (pg_name (i := 1) sc_law.nd rfl (Or.inl rfl)) (pss_cons (ps_set (i := 2) sc_law.nd rfl (Or.inl rfl) (pe_c G_law_purse (hr.mono (by decide)) (by rfl) (pa_cons (pv 0) (pa_cons (pv 1) (pa_nil)))))
      (pss_cons (ps_set (i := 3) sc_law.nd rfl (Or.inl rfl) (pe_c G_law_rules (hr.mono (by decide)) (by rfl) (pa_cons (pv 2) (pa_cons (pe_int) (pa_nil)))))
      (pss_cons (ps_if (pt_cmpR op_eq (pe_c G_law_draw (hr.mono (by decide)) (by rfl) (pa_cons (pv 2) (pa_cons (pe_int) (pa_nil)))) (pe_int) (nomark _)) (pss_one (ps_set (i := 3) sc_law.nd rfl (Or.inl rfl) (pe_tup (pa_cons (pe_str) (pa_cons (pe_tup (pa_cons (pe_str) (pa_cons (pe_c G_law_draw (hr.mono (by decide)) (by rfl) (pa_cons (pv 2) (pa_cons (pe_int) (pa_nil)))) (pa_cons (pe_int) (pa_nil))))) (pa_cons (pe_ix ix_list (pe_lst (pa_cons (pe_int) (pa_cons (pe_int) (pa_cons (pe_int) (pa_nil))))) (pe_c G_law_draw (hr.mono (by decide)) (by rfl) (pa_cons (pv 2) (pa_cons (pe_int) (pa_nil)))) (fun _ _ => rfl)) (pa_nil))))))) (pss_nil))
      (pss_cons (ps_set (i := 4) sc_law.nd rfl (Or.inl rfl) (pe_c G_law_box (hr.mono (by decide)) (by rfl) (pa_cons (pv 2) (pa_cons (pe_int) (pa_nil)))))
      (pss_cons (ps_set (i := 5) sc_law.nd rfl (Or.inl rfl) (pe_mk G_Land (hr.mono (by decide)) (by rfl) (pa_cons (pv 3) (pa_cons (pe_c G_law_draw (hr.mono (by decide)) (by rfl) (pa_cons (pv 2) (pa_cons (pe_int) (pa_nil)))) (pa_nil)))))
      (pss_cons (ps_for PassesOwn.never rfl (pi_list (pe_c G_law_edits (hr.mono (by decide)) (by rfl) (pa_cons (pv 2) (pa_cons (pv 4) (pa_cons (pe_int) (pa_nil)))))) (pg_name (i := 6) sc_law.nd rfl (Or.inl rfl)) (pss_one (ps_expr (pe_m G_edit (hr.mono (by decide)) T.cl (pv 5) (pa_cons (pv 6) (pa_nil))))))
      (pss_cons (ps_set (i := 7) sc_law.nd rfl (Or.inl rfl) (pe_c G_law_spot (hr.mono (by decide)) (by rfl) (pa_cons (pv 2) (pa_cons (pv 4) (pa_nil)))))
      (pss_cons (ps_if (PW.pt (pw_or (pt_not (pt_val (pe_c G_law_levels_right (hr.mono (by decide)) (by rfl) (pa_cons (pv 5) (pa_cons (pv 4) (pa_cons (pv 7) (pa_nil))))))) (pw_or1 (pt_not (pt_val (pe_c G_law_shuts_right (hr.mono (by decide)) (by rfl) (pa_cons (pv 5) (pa_cons (pv 4) (pa_cons (pv 7) (pa_nil)))))))))) (pss_one (ps_ret (pe_bl))) (pss_nil))
      (pss_one (ps_for PassesOwn.never rfl (pi_range1 (by rfl) T.f_range (pa_cons (pe_int) (pa_nil))) (pg_name (i := 8) sc_law.nd rfl (Or.inl rfl)) (pss_one (ps_if (pt_not (pt_val (pe_c G_law_sight_right (hr.mono (by decide)) (by rfl) (pa_cons (pv 2) (pa_cons (pv 5) (pa_nil)))))) (pss_one (ps_ret (pe_bl))) (pss_nil))))))))))))))
      (pss_one (ps_ret (pe_bl))), ?_⟩
    walk_at "rd"
    refine ⟨a, _, rfl, ha, fun p0 hp0 => ?_⟩
    have haA : SqL K (upd H p0 (.lst (cutV (ns.map V.int) none (some 3)))) a (ns.map V.int) := sl_new hp0 ha
    have hslA : SqL K (upd H p0 (.lst (cutV (ns.map V.int) none (some 3)))) p0 (cutV (ns.map V.int) none (some 3)) := sl_up
    have hcl : (cutV (ns.map V.int) none (some 3)).length ≤ 63 := Nat.le_trans (cutV_length ..) (by rw [List.length_map]; exact hnl)
    generalize upd H p0 (.lst (cutV (ns.map V.int) none (some 3))) = HA at *
    generalize cutV (ns.map V.int) none (some 3) = cut at *
    clear hp0 ha
    walk_at "rd"
    refine for_range (fun i σ H' => Here (Ex HA H' ∧ ∃ r1 r2 r3 r4 r5 r6 r7 r8, σ = [some (.ref a), r1, r2, r3, r4, r5, r6, r7, r8])) (.it ⟨Ex.rfl' _, none, none, none, none, none, none, none, none, rfl⟩) ?_ ?_
    rotate_left
    · intro σ H' hh
      obtain ⟨he, r1, r2, r3, r4, r5, r6, r7, r8, rfl⟩ := hh.get
      walk_at "rd"
      exact kk _
    intro i σ HI hi hh
    obtain ⟨heI, r1, r2, r3, r4, r5, r6, r7, r8, rfl⟩ := hh.get
    clear hh
    have haI := sl_ex heI haA
    have hi64 : i < 64 := by
      have : (((cut.length : Nat) : Int) > 1 ∨ ¬ ((cut.length : Nat) : Int) > 1) := by omega
      revert hi
      split <;> omega
    clear hi hslA haA
    -- the purse
    refine seq_x (fun σ H' => Here (∃ p, HI p = none ∧ Ex HI H' ∧ PurseAt H' p 1000000 ∧ σ = [some (.ref a), some (.int (0 + (i : Nat))), some (.ref p), r3, r4, r5, r6, r7, r8])) ?_ (fun nx hnx => ?_)
    rotate_left
    · walk_at "rd"
      refine ⟨a, ns, 0 + i, rfl, haI, by omega, fun p H1 hp e1 hpu => ?_⟩
      walk_at "rd"
      exact hnx _ _ (.it ⟨p, hp, e1, hpu, rfl⟩)
    intro σ H1 hh
    obtain ⟨p, hpn, e1, hp1, rfl⟩ := hh.get
    clear hh haI
    -- the rules
    refine seq_x (fun σ H' => Here (∃ v, Ex HI H' ∧ PurseAt H' p 1000105 ∧ FdP H' 2 v ∧ σ = [some (.ref a), some (.int (0 + (i : Nat))), some (.ref p), some v, r4, r5, r6, r7, r8])) ?_ (fun nx hnx => ?_)
    rotate_left
    · walk_at "rd"
      intro v H2 hp2 m2 hv
      walk_at "rd"
      exact hnx _ _ (.it ⟨v, e1.mvf m2 hpn, hp2, hv, rfl⟩)
    intro σ H2 hh
    obtain ⟨v0, e2, hp2, hv0, rfl⟩ := hh.get
    clear hh hp1 e1
    -- over
    refine seq_x (fun σ H' => Here (∃ v, Ex HI H' ∧ PurseAt H' p 1000110 ∧ FdP H' 2 v ∧ σ = [some (.ref a), some (.int (0 + (i : Nat))), some (.ref p), some v, r4, r5, r6, r7, r8])) ?_ (fun nx hnx => ?_)
    rotate_left
    · walk_at "rd"
      refine ⟨p, 2, 1000105, rfl, hp2, by decide, by omega, by omega, fun r H3 r0 r1' hp3 hm3 => ?_⟩
      have e3 := e2.mvf hm3 hpn
      by_cases hr0 : r = 0
      · walk_at "rd"
        refine ⟨p, 9, 1000106, rfl, hp3, by decide, by omega, by omega, fun u H4 u0 u1 hp4 hm4 => ?_⟩
        walk_at "rd"
        rename_i t1 ht1 l1 hl1
        have hlp := purse_ne (purse_new (o := .tup [.str "noise", .int u, .int 2]) hp4 ht1) hl1
        refine ⟨p, 3, 1000107, rfl, by walk_at "pu", by decide, by omega, by omega, fun w' H5 w0 w1 hp5 hm5 => ?_⟩
        have hl5 := hm5 l1 _ upd_same fun e => absurd e hlp
        obtain ⟨dv, hdv, edv⟩ := pick (ns := [60, 900, 7000]) w0 w1
        have hdv' : dv = 60 ∨ dv = 900 ∨ dv = 7000 := by simpa using hdv
        refine ⟨_, _, _, _, rfl, rfl, Evl.sq_of hl5, edv, ?_⟩
        have ht5 : Tp H5 t1 [.str "noise", .int u, .int 2] := tp_mv hm5 (tp_new hl1 tp_up)
        have e5 := ((((e3.mvf hm4 hpn).nw ht1).nw hl1).mvf hm5 hpn)
        walk_at "rd"
        rename_i t2 ht2
        exact hnx _ _ (.it ⟨.ref t2, e5.nw ht2, (purse_new hp5 ht2).le (by decide), .over tp_up (.noise (n := 1) (tp_new ht2 ht5) u0 (by omega) (by decide) (by decide)) (by omega) (by omega), rfl⟩)
      · walk_at "rd"
        exact hnx _ _ (.it ⟨v0, e3, hp3.le (by decide), hv0.mono (mv_tst hm3), rfl⟩)
    intro σ H3 hh
    obtain ⟨v, e3, hp3, hv, rfl⟩ := hh.get
    clear hh hp2 e2 hv0
    -- the box
    refine seq_x (fun σ H' => Here (∃ q b0 b1 b2 b3, Ex HI H' ∧ PurseAt H' p 1000114 ∧ FdP H' 2 v ∧ Tp H' q [.int b0, .int b1, .int b2, .int b3] ∧ BxIn b0 b1 b2 b3 ∧ σ = [some (.ref a), some (.int (0 + (i : Nat))), some (.ref p), some v, some (.ref q), r5, r6, r7, r8])) ?_ (fun nx hnx => ?_)
    rotate_left
    · walk_at "rd"
      intro q H4 b0 b1 b2 b3 hp4 m4 hq ht k1 k2 k3 k4 k5 k6 k7 k8
      walk_at "rd"
      exact hnx _ _ (.it ⟨q, b0, b1, b2, b3, e3.mvf m4 hpn, hp4, hv.mono (mv_tst m4), ht, ⟨k1, k2, k3, k4, k5, k6, k7, k8⟩, rfl⟩)
    intro σ H4 hh
    obtain ⟨q, b0, b1, b2, b3, e4, hp4, hv4, hq4, hbx, rfl⟩ := hh.get
    clear hh hp3 e3 hv
    -- the land
    refine seq_x (fun σ H' => Here (∃ s L, LandAt D H' s L ∧ L.es = [] ∧ L.ps = [] ∧ L.nf = 0 ∧ (∀ b ∈ LS s L, HI b = none) ∧ Ex HI H' ∧ PurseAt H' p 1000115 ∧ Tp H' q [.int b0, .int b1, .int b2, .int b3] ∧ σ = [some (.ref a), some (.int (0 + (i : Nat))), some (.ref p), some v, some (.ref q), some (.ref s), r6, r7, r8])) ?_ (fun nx hnx => ?_)
    rotate_left
    · walk_at "rd"
      refine ⟨p, 1000, 1000114, rfl, hp4, by decide, by omega, by omega, fun r H5 r0 r1' hp5 hm5 => ?_⟩
      have e5 := e4.mvf hm5 hpn
      have hv5 := hv4.mono (mv_tst hm5)
      have hq5 := tp_mv hm5 hq4
      walk_at "rd"
      intro s dx hs hdx hne
      have hs' : (upd H5 dx (.own s)) s = none := by rw [upd_ne (Ne.symm hne)]; exact hs
      have e6 : Ex H5 (upd (upd H5 dx (.own s)) s (.ins D.C dx [])) := ((Ex.rfl' H5).nw hdx).nw hs'
      refine ⟨s, dx, v, r, rfl, upd_same, hv5.mono (.ex e6), fun L H' hL hg hes hps hnf hpa hfu hsh fr => ⟨rfl, ?_⟩⟩
      have e56 := e5.tr e6
      have hsI : HI s = none := e5.fr hs
      have hLS : ∀ b ∈ LS s L, HI b = none := fun b hb => by
        unfold LS at hb
        simp only [List.mem_cons, List.not_mem_nil, or_false] at hb
        rcases hb with rfl | rfl | rfl | rfl
        · exact hsI
        · exact e56.fr hpa
        · exact e56.fr hfu
        · exact e56.fr hsh
      walk_at "rd"
      refine hnx _ _ (.it ⟨s, L, hL, hes, hps, hnf, hLS, e56.frf fr fun b hb => by rw [List.mem_singleton.mp hb]; exact hsI, purse_frs (purse_ex hp5 e6) fr fun hb => ?_, fr _ _ (tp_ex e6 hq5) fun hb => ?_, rfl⟩)
      · obtain ⟨_, _, _, hpp, _⟩ := hp5
        rw [List.mem_singleton.mp hb, hs] at hpp
        cases hpp
      · have : H5 q = _ := hq5
        rw [List.mem_singleton.mp hb, hs] at this
        cases this
    intro σ H5 hh
    obtain ⟨s, L, hL5, hes5, hps5, hnf5, hLS5, e5, hp5, hq5, rfl⟩ := hh.get
    clear hh hp4 e4 hq4 hv4
    -- the edits
    refine seq_x (fun σ H' => Here (∃ L r6', LandAt D H' s L ∧ L.es.length ≤ 3 ∧ L.ps.length ≤ 3 ∧ L.nf ≤ 2 ∧ (∀ b ∈ LS s L, HI b = none) ∧ Ex HI H' ∧ PurseAt H' p 1000137 ∧ Tp H' q [.int b0, .int b1, .int b2, .int b3] ∧ σ = [some (.ref a), some (.int (0 + (i : Nat))), some (.ref p), some v, some (.ref q), some (.ref s), r6', r7, r8])) ?_ (fun nx hnx => ?_)
    rotate_left
    · walk_at "rd"
      refine ⟨p, q, 1000115, b0, b1, b2, b3, rfl, hp5, by decide, hq5, hbx, fun l HE us es hpE mE hlE hlu hpr hok hlen => ?_⟩
      have hLE := hL5.mv hp5 mE (by omega)
      have eE := e5.mvf mE hpn
      have hqE := tp_mv mE hq5
      have hln : l ∉ LS s L := land_mem hL5 hlE
      have hul := pair_len hpr
      refine ⟨l, rfl, ⟨_, Evl.sq_of hlu⟩, ?_⟩
      refine for_list (K := K) (a := l) (xs := us) (fun j σ H' => Here (∃ L' r6', LRun D s HE L (es.take j) (psW [] es j) 0 H' L' ∧ H' l = some (.lst us) ∧ l ∉ LS s L' ∧ σ = [some (.ref a), some (.int (0 + (i : Nat))), some (.ref p), some v, some (.ref q), some (.ref s), r6', r7, r8])) (.it ⟨L, r6, ?_, hlu, hln, rfl⟩) (fun j σ H' _ hh => by obtain ⟨_, _, _, z, _⟩ := hh.get; exact Evl.sq_of z) ?_ ?_
      · have := LRun.start hLE
        rw [hes5, hps5, hnf5] at this
        exact this
      · intro j u σ H' hu' hh
        obtain ⟨L', r6', R', hl', hln', rfl⟩ := hh.get
        obtain ⟨e, hej, hed⟩ := pair_get hpr hu'
        have hed' := hed.mono (R'.tst hLE)
        have hjl := (List.getElem?_eq_some_iff.mp hej).1
        have hins := R'.land.ins
        walk_at "rd"
        refine ⟨s, L', u, e, rfl, R'.land, hed', hok e (List.mem_of_getElem? hej), by rw [R'.es, List.length_take]; omega, by rw [R'.ps, psW_len]; omega, fun rr L'' H'' f0 f1 f2 f3 f4 f5 f6 f7 f8 f9 => ?_⟩
        walk_at "rd"
        refine .it ⟨L'', _, ?_, f9 _ _ hl' hln', notLS hln' f5 f6 hl' (.inl f8), rfl⟩
        have R9 := R'.edit f0 f1 f2 f3 f4 f5 f6 f7 f8 f9
        rw [take_snoc hej, psW_succ, List.nil_append]
        exact R9
      · intro σ H' hh
        obtain ⟨L', r6', R', hl', hln', rfl⟩ := hh.get
        refine hnx _ _ (.it ⟨L', r6', R'.land, by rw [R'.es, List.length_take]; omega, by rw [R'.ps, psW_len]; omega, by rw [R'.nf]; decide, fun b hb => ?_, eE.frf R'.fr hLS5, purse_frs hpE R'.fr (purse_out hLE hpE (by omega)), R'.tst hLE _ _ hqE, rfl⟩)
        unfold LS at hb
        simp only [List.mem_cons, List.not_mem_nil, or_false] at hb
        rcases hb with rfl | rfl | rfl | rfl
        · exact hLS5 _ (by unfold LS; simp)
        · exact hLS5 _ (by rw [R'.past]; unfold LS; simp)
        · cases e : HI L'.fut with
          | none => rfl
          | some o =>
            have := hLS5 _ (R'.fut o (eE _ _ e))
            rw [e] at this
            cases this
        · exact hLS5 _ (by rw [R'.shelf]; unfold LS; simp)
    clear hL5 hes5 hps5 hnf5 hLS5 e5 hp5 hq5
    clear L
    intro σ H6 hh
    obtain ⟨L, r6', hL6, hel, hpl, hnf, hLS6, e6, hp6, hq6, rfl⟩ := hh.get
    clear hh
    obtain ⟨k1, k2, k3, k4, k5, k6, k7, k8⟩ := id hbx
    -- the spring
    refine seq_x (fun σ H' => Here (∃ g x z, LandAt D H' s L ∧ Ex HI H' ∧ PurseAt H' p 1000139 ∧ Tp H' q [.int b0, .int b1, .int b2, .int b3] ∧ Tp H' g [.int x, .int z] ∧ inBx b0 b1 b2 b3 x z = true ∧ σ = [some (.ref a), some (.int (0 + (i : Nat))), some (.ref p), some v, some (.ref q), some (.ref s), r6', some (.ref g), r8])) ?_ (fun nx hnx => ?_)
    rotate_left
    · walk_at "rd"
      refine ⟨p, q, 1000137, b0, b1, b2, b3, rfl, hp6, by decide, tp_sq hq6, by omega, by omega, by omega, by omega, fun g H7 x z hp7 m7 hg ht x1 x2 z1 z2 => ?_⟩
      walk_at "rd"
      exact hnx _ _ (.it ⟨g, x, z, hL6.mv hp6 m7 hnf, e6.mvf m7 hpn, hp7, tp_mv m7 hq6, ht, inB2.mpr ⟨⟨x1, x2⟩, z1, z2⟩, rfl⟩)
    clear hL6 e6 hp6 hq6
    intro σ H7 hh
    obtain ⟨g, x, z, hL7, e7, hp7, hq7, hg7, hin, rfl⟩ := hh.get
    clear hh
    -- levels and shuts
    refine seq_x (fun σ H' => Here (∃ L, LandAt D H' s L ∧ L.nf ≤ 2 ∧ Ex HI H' ∧ PurseAt H' p 1000139 ∧ σ = [some (.ref a), some (.int (0 + (i : Nat))), some (.ref p), some v, some (.ref q), some (.ref s), r6', some (.ref g), r8])) ?_ (fun nx hnx => ?_)
    rotate_left
    · walk_at "rd"
      refine ⟨s, q, g, L, b0, b1, b2, b3, x, z, rfl, hL7, hq7, hg7, ⟨k1, k2, by omega, by omega, k5, k6, by omega, by omega⟩, hin, fun H8 e8 => ?_⟩
      have hL8 := hL7.ex e8
      have hq8 := tp_ex e8 hq7
      have hg8 := tp_ex e8 hg7
      have hp8 := purse_ex hp7 e8
      have eI8 := e7.tr e8
      walk_at "rd"
      refine ⟨s, q, g, L, b0, b1, b2, b3, x, z, rfl, hL8, hq8, hg8, hbx, hin, hel, hpl, hnf, fun H9 L9 nf9 hnf9 R9 => ?_⟩
      walk_at "rd"
      exact hnx _ _ (.it ⟨L9, R9.land, by rw [R9.nf]; exact hnf9, eI8.frf R9.fr hLS6, purse_frs hp8 R9.fr (purse_out hL8 hp8 hnf), rfl⟩)
    clear hL7 e7 hp7 hq7 hg7 hel hpl hnf hLS6
    clear L
    intro σ H8 hh
    obtain ⟨L, hL8, hnf8, e8, hp8, rfl⟩ := hh.get
    clear hh
    -- the sights
    walk_at "rd"
    refine for_range (fun j σ H' => Here (∃ m r8', LandAt D H' s L ∧ Ex HI H' ∧ PurseAt H' p m ∧ m ≤ 1000139 + 5 * j ∧ σ = [some (.ref a), some (.int (0 + (i : Nat))), some (.ref p), some v, some (.ref q), some (.ref s), r6', some (.ref g), r8'])) (.it ⟨1000139, _, hL8, e8, hp8, by omega, rfl⟩) ?_ ?_
    · intro j σ H' hj hh
      obtain ⟨m, r8', hL9, e9, hp9, hm9, rfl⟩ := hh.get
      have hj3 : j < 3 := hj
      walk_at "rd"
      refine ⟨p, s, m, L, rfl, hp9, by omega, hL9, hnf8, fun H10 hp10 m10 => ?_⟩
      walk_at "rd"
      exact .it ⟨m + 5, _, hL9.mv hp9 m10 hnf8, e9.mvf m10 hpn, hp10, by omega, rfl⟩
    · intro σ H' hh
      obtain ⟨m, r8', hL9, e9, hp9, hm9, rfl⟩ := hh.get
      walk_at "rd"
      exact .it ⟨heI.tr e9, _, _, _, _, _, _, _, _, rfl⟩

end Kw
set_option Elab.async false
set_option linter.all false
set_option maxRecDepth 100000
set_option maxHeartbeats 2000000
/-! The head's facts, by names. -/
namespace KwH
open PySem PySem.Spec PyProof.Rows L2 Kw
theorem tupAtB_ok {K : PySem.W.Frag} {a : Addr} {vs : List V} (h : tupAtB K a vs = true) (H : Hp) : SqT K H a vs := by
  unfold tupAtB at h
  cases q : K.lookup a with
  | none =>
    rw [q] at h
    cases h
  | some o =>
    obtain ⟨oc, od, dt, osl⟩ := o
    rw [q] at h
    cases oc with
    | type c =>
      cases dt with
      | seq its n =>
        obtain ⟨h1, h2⟩ := He.ba (show (decide (c = "tuple") && (decide (its.size ≤ sizeLine) && He.relAll vs its.toList)) = true from h)
        obtain ⟨h3, h4⟩ := He.ba h2
        exact .inr ⟨_, its, n, q, congrArg Value.type (of_decide_eq_true h1), rfl, of_decide_eq_true h3, He.relAll_ok h4⟩
      | _ => cases h
    | _ => cases dt <;> cases h
abbrev SaysK (w : World) (K : PySem.W.Frag) : Prop := gbA K = gvA w
def hkH : PySem.W.Hook where
  α := TyA
  obs := fun s => gbA (KG s.heap.get?)
  val := fun w => gvA w
  says := fun w h => ∃ K : PySem.W.Frag, K.In h ∧ SaysK w K
  of := fun _ _ e => ⟨_, He.frG_in, e⟩
  keeps := fun _ _ _ ⟨K, hK, c⟩ k => ⟨K, PySem.W.Frag.In.keeps hK k, c⟩
def obH (s : PySem.W.SharedT) : TyA := gbA (KG (HandSHeadRun.getT s))
theorem obH_eq (s : PySem.W.SharedT) : obH s = hkH.obs s.abs := by
  have e : HandSHeadRun.getT s = s.abs.heap.get? := funext (HandSHeadRun.getT_eq s)
  unfold obH
  rw [e]
  rfl
theorem runH (w : World) : HandSHeadRun.RunEq R viewQ hkH obH 6000 names w := fun os => runAll w os
section
variable {w : World} {K : PySem.W.Frag} {h : Heap} {mg : Str → Option Value}
theorem saysF0 (c : SaysK w K) : obF0 K = vlF0 w := congrArg (fun z : TyA => z.1) c
theorem saysF1 (c : SaysK w K) : obF1 K = vlF1 w := congrArg (fun z : TyA => z.2.1) c
theorem saysF2 (c : SaysK w K) : obF2 K = vlF2 w := congrArg (fun z : TyA => z.2.2.1) c
theorem saysD0 (c : SaysK w K) : obD0 K = vlD0 w := congrArg (fun z : TyA => z.2.2.2.1) c
theorem saysD1 (c : SaysK w K) : obD1 K = vlD1 w := congrArg (fun z : TyA => z.2.2.2.2.1) c
theorem saysD2 (c : SaysK w K) : obD2 K = vlD2 w := congrArg (fun z : TyA => z.2.2.2.2.2.1) c
theorem saysD3 (c : SaysK w K) : obD3 K = vlD3 w := congrArg (fun z : TyA => z.2.2.2.2.2.2.1) c
theorem saysD4 (c : SaysK w K) : obD4 K = vlD4 w := congrArg (fun z : TyA => z.2.2.2.2.2.2.2.1) c
theorem saysT (c : SaysK w K) : obT K = vlT w := congrArg (fun z : TyA => z.2.2.2.2.2.2.2.2.1) c
theorem saysX (c : SaysK w K) : obX K = vlX w := congrArg (fun z : TyA => z.2.2.2.2.2.2.2.2.2) c
theorem fact0 (c : SaysK w K) {f : He.Fa} (hf : f ∈ fa0) : f.ok K = true := List.all_eq_true.mp (saysF0 c) f hf
theorem fact1 (c : SaysK w K) {f : He.Fa} (hf : f ∈ fa1) : f.ok K = true := List.all_eq_true.mp (saysF1 c) f hf
theorem fact2 (c : SaysK w K) {f : He.Fa} (hf : f ∈ fa2) : f.ok K = true := List.all_eq_true.mp (saysF2 c) f hf
theorem def0 (c : SaysK w K) {d : He.DefD} (hd : d ∈ fn0) : ∃ fd, FunD K d.name d.qual d.params d.body d.scope (d.dvs K) (d.kws K) (He.fAd K d.at_) fd := by
  have e := saysD0 c
  have e1 : (fn0.all fun d => d.ok K) = true := congrArg Prod.fst e
  have e2 : (fn0.map fun d => He.fnW K d.at_) = fn0.map He.DefD.val := congrArg Prod.snd e
  obtain ⟨i, hi, ei⟩ := List.mem_iff_getElem.mp hd
  have e3 : (fn0.map fun d => He.fnW K d.at_)[i]? = (fn0.map He.DefD.val)[i]? := by rw [e2]
  rw [List.getElem?_map, List.getElem?_map, List.getElem?_eq_getElem hi, ei] at e3
  exact He.DefD.funD (Option.some.inj e3) (List.all_eq_true.mp e1 d hd)
theorem def1 (c : SaysK w K) {d : He.DefD} (hd : d ∈ fn1) : ∃ fd, FunD K d.name d.qual d.params d.body d.scope (d.dvs K) (d.kws K) (He.fAd K d.at_) fd := by
  have e := saysD1 c
  have e1 : (fn1.all fun d => d.ok K) = true := congrArg Prod.fst e
  have e2 : (fn1.map fun d => He.fnW K d.at_) = fn1.map He.DefD.val := congrArg Prod.snd e
  obtain ⟨i, hi, ei⟩ := List.mem_iff_getElem.mp hd
  have e3 : (fn1.map fun d => He.fnW K d.at_)[i]? = (fn1.map He.DefD.val)[i]? := by rw [e2]
  rw [List.getElem?_map, List.getElem?_map, List.getElem?_eq_getElem hi, ei] at e3
  exact He.DefD.funD (Option.some.inj e3) (List.all_eq_true.mp e1 d hd)
theorem def2 (c : SaysK w K) {d : He.DefD} (hd : d ∈ fn2) : ∃ fd, FunD K d.name d.qual d.params d.body d.scope (d.dvs K) (d.kws K) (He.fAd K d.at_) fd := by
  have e := saysD2 c
  have e1 : (fn2.all fun d => d.ok K) = true := congrArg Prod.fst e
  have e2 : (fn2.map fun d => He.fnW K d.at_) = fn2.map He.DefD.val := congrArg Prod.snd e
  obtain ⟨i, hi, ei⟩ := List.mem_iff_getElem.mp hd
  have e3 : (fn2.map fun d => He.fnW K d.at_)[i]? = (fn2.map He.DefD.val)[i]? := by rw [e2]
  rw [List.getElem?_map, List.getElem?_map, List.getElem?_eq_getElem hi, ei] at e3
  exact He.DefD.funD (Option.some.inj e3) (List.all_eq_true.mp e1 d hd)
theorem def3 (c : SaysK w K) {d : He.DefD} (hd : d ∈ fn3) : ∃ fd, FunD K d.name d.qual d.params d.body d.scope (d.dvs K) (d.kws K) (He.fAd K d.at_) fd := by
  have e := saysD3 c
  have e1 : (fn3.all fun d => d.ok K) = true := congrArg Prod.fst e
  have e2 : (fn3.map fun d => He.fnW K d.at_) = fn3.map He.DefD.val := congrArg Prod.snd e
  obtain ⟨i, hi, ei⟩ := List.mem_iff_getElem.mp hd
  have e3 : (fn3.map fun d => He.fnW K d.at_)[i]? = (fn3.map He.DefD.val)[i]? := by rw [e2]
  rw [List.getElem?_map, List.getElem?_map, List.getElem?_eq_getElem hi, ei] at e3
  exact He.DefD.funD (Option.some.inj e3) (List.all_eq_true.mp e1 d hd)
theorem def4 (c : SaysK w K) {d : He.DefD} (hd : d ∈ fn4) : ∃ fd, FunD K d.name d.qual d.params d.body d.scope (d.dvs K) (d.kws K) (He.fAd K d.at_) fd := by
  have e := saysD4 c
  have e1 : (fn4.all fun d => d.ok K) = true := congrArg Prod.fst e
  have e2 : (fn4.map fun d => He.fnW K d.at_) = fn4.map He.DefD.val := congrArg Prod.snd e
  obtain ⟨i, hi, ei⟩ := List.mem_iff_getElem.mp hd
  have e3 : (fn4.map fun d => He.fnW K d.at_)[i]? = (fn4.map He.DefD.val)[i]? := by rw [e2]
  rw [List.getElem?_map, List.getElem?_map, List.getElem?_eq_getElem hi, ei] at e3
  exact He.DefD.funD (Option.some.inj e3) (List.all_eq_true.mp e1 d hd)
theorem tabs (c : SaysK w K) {t : He.Tab} (ht : t ∈ ts) : ∃ es n, KDict K w (t.1 K) es n := by
  have e : (ts.map fun t => He.dicW K (t.1 K)) = ts.map fun t => some (He.keysIn w.params t.2) := saysT c
  obtain ⟨i, hi, ei⟩ := List.mem_iff_getElem.mp ht
  have e3 : (ts.map fun t => He.dicW K (t.1 K))[i]? = (ts.map fun t => some (He.keysIn w.params t.2))[i]? := by rw [e]
  rw [List.getElem?_map, List.getElem?_map, List.getElem?_eq_getElem hi, ei] at e3
  exact He.dicW_ok (Option.some.inj e3)
theorem kdct {a : Addr} {kvs : List (Str × He.Dv)} (hd : ∃ es n, KDict K w a es n) (hv : He.valsB K a kvs = true) {q : Str × He.Dv} (hq : q ∈ kvs) : KDct K w a q.1 (q.2.v K) := by
  obtain ⟨es, n, k⟩ := hd
  obtain ⟨u, e, r⟩ := He.valsB_ok hv hq
  exact ⟨es, n, u, k.at_, k.lit, e, r⟩
def ads (K : PySem.W.Frag) : Ad where
  C := He.ga K "Land"
  W := He.ga K "WHOLE_LAND"
  B := He.ga K "BESIDE"
  b1 := itemAt K (He.ga K "BESIDE") 0
  b2 := itemAt K (He.ga K "BESIDE") 1
  b3 := itemAt K (He.ga K "BESIDE") 2
  b4 := itemAt K (He.ga K "BESIDE") 3
  F := He.ga K "FORMS"
  R := He.ga K "REACHES"
  S := He.ga K "SORTS"
  rN := dictAt K (He.ga K "REACHES") "N"
  rS := dictAt K (He.ga K "REACHES") "S"
  rL := dictAt K (He.ga K "REACHES") "L"
  rD := dictAt K (He.ga K "REACHES") "D"
  rM := dictAt K (He.ga K "REACHES") "M"
theorem reach_ok (hd : ∃ es n, KDict K w (He.ga K "REACHES") es n) {q : Str × (Int × Int)} (hb : reachB K q = true) : KDct K w (He.ga K "REACHES") q.1 (.ref (dictAt K (He.ga K "REACHES") q.1)) ∧ ∀ H, SqT K H (dictAt K (He.ga K "REACHES") q.1) [.int q.2.1, .int q.2.2] := by
  obtain ⟨h1, h2⟩ := He.ba hb
  refine ⟨?_, tupAtB_ok h2⟩
  obtain ⟨es, n, k⟩ := hd
  cases e : PySem.W.nsIn K (He.ga K "REACHES") q.1 with
  | none =>
    rw [e] at h1
    cases h1
  | some r =>
    rw [e] at h1
    cases r with
    | none => cases h1
    | some u => exact ⟨es, n, u, k.at_, k.lit, e, He.relB_ok h1⟩
theorem txt (c : SaysK w K) (X : K.In h) (G : h.Ns mainGlobals mg) : Txt K w mg (ads K) := by
  have hx : ex K = true := saysX c
  obtain ⟨hx1, hx2⟩ := He.ba hx
  obtain ⟨vF, vS⟩ := He.ba hx1
  obtain ⟨hx3, hW⟩ := He.ba hx2
  obtain ⟨hR, hB⟩ := He.ba hx3
  obtain ⟨hB1, hB2⟩ := He.ba hB
  have dF := tabs c (t := tFORMS) (List.mem_of_getElem? (i := 0) rfl)
  have dR := tabs c (t := tREACHES) (List.mem_of_getElem? (i := 1) rfl)
  have dS := tabs c (t := tSORTS) (List.mem_of_getElem? (i := 2) rfl)
  have rch : ∀ q ∈ vREACHES, reachB K q = true := fun q hq => List.all_eq_true.mp hR q hq
  have bes : ∀ i, i < 4 → tupAtB K (itemAt K (He.ga K "BESIDE") i) [.int (besideL.getD i (0, 0)).1, .int (besideL.getD i (0, 0)).2] = true := fun i hi => List.all_eq_true.mp hB2 i (List.mem_range.mpr hi)
  exact {
    FIRST := He.int_ok X G (fact1 c (f := .int "FIRST" (2147483647)) (List.mem_of_getElem? (i := 34) rfl))
    SECOND := He.int_ok X G (fact1 c (f := .int "SECOND" (2147483629)) (List.mem_of_getElem? (i := 35) rfl))
    THIRD := He.int_ok X G (fact1 c (f := .int "THIRD" (2147483587)) (List.mem_of_getElem? (i := 36) rfl))
    LAST := He.int_ok X G (fact1 c (f := .int "LAST" (2147483579)) (List.mem_of_getElem? (i := 37) rfl))
    MOST := He.int_ok X G (fact1 c (f := .int "MOST" (65536)) (List.mem_of_getElem? (i := 38) rfl))
    FAREST := He.int_ok X G (fact1 c (f := .int "FAREST" (1000000)) (List.mem_of_getElem? (i := 39) rfl))
    MOST_FIELDS := He.int_ok X G (fact2 c (f := .int "MOST_FIELDS" (200)) (List.mem_of_getElem? (i := 0) rfl))
    MOST_SQUARES := He.int_ok X G (fact2 c (f := .int "MOST_SQUARES" (64)) (List.mem_of_getElem? (i := 1) rfl))
    MOST_KNOT := He.int_ok X G (fact2 c (f := .int "MOST_KNOT" (65535)) (List.mem_of_getElem? (i := 2) rfl))
    GREAT := He.int_ok X G (fact2 c (f := .int "GREAT" (1000000000000000000000000000000)) (List.mem_of_getElem? (i := 5) rfl))
    MOST_POINTS := He.int_ok X G (fact2 c (f := .int "MOST_POINTS" (1024)) (List.mem_of_getElem? (i := 7) rfl))
    MOST_MEMORY := He.int_ok X G (fact2 c (f := .int "MOST_MEMORY" (1000)) (List.mem_of_getElem? (i := 9) rfl))
    MOST_EDITS := He.int_ok X G (fact2 c (f := .int "MOST_EDITS" (60)) (List.mem_of_getElem? (i := 10) rfl))
    MOST_SHIFT_land := He.int_ok X G (fact2 c (f := .int "MOST_SHIFT_land" (1000)) (List.mem_of_getElem? (i := 11) rfl))
    MOST_FIGURES := He.int_ok X G (fact2 c (f := .int "MOST_FIGURES" (999999999)) (List.mem_of_getElem? (i := 12) rfl))
    MOST_EYE := He.int_ok X G (fact2 c (f := .int "MOST_EYE" (1000)) (List.mem_of_getElem? (i := 14) rfl))
    FARTHEST := He.int_ok X G (fact2 c (f := .int "FARTHEST" (200)) (List.mem_of_getElem? (i := 15) rfl))
    f_len := He.free_ok X G (fact1 c (f := .free "len") (List.mem_of_getElem? (i := 16) rfl))
    f_isinstance := He.free_ok X G (fact1 c (f := .free "isinstance") (List.mem_of_getElem? (i := 17) rfl))
    f_min := He.free_ok X G (fact1 c (f := .free "min") (List.mem_of_getElem? (i := 18) rfl))
    f_max := He.free_ok X G (fact1 c (f := .free "max") (List.mem_of_getElem? (i := 19) rfl))
    f_abs := He.free_ok X G (fact1 c (f := .free "abs") (List.mem_of_getElem? (i := 21) rfl))
    f_all := He.free_ok X G (fact1 c (f := .free "all") (List.mem_of_getElem? (i := 20) rfl))
    f_sum := He.free_ok X G (fact1 c (f := .free "sum") (List.mem_of_getElem? (i := 22) rfl))
    f_sorted := He.free_ok X G (fact1 c (f := .free "sorted") (List.mem_of_getElem? (i := 28) rfl))
    f_divmod := He.free_ok X G (fact1 c (f := .free "divmod") (List.mem_of_getElem? (i := 30) rfl))
    f_range := He.free_ok X G (fact1 c (f := .free "range") (List.mem_of_getElem? (i := 23) rfl))
    f_zip := He.free_ok X G (fact1 c (f := .free "zip") (List.mem_of_getElem? (i := 24) rfl))
    f_enumerate := He.free_ok X G (fact1 c (f := .free "enumerate") (List.mem_of_getElem? (i := 25) rfl))
    f_tuple := He.free_ok X G (fact1 c (f := .free "tuple") (List.mem_of_getElem? (i := 26) rfl))
    f_list := He.free_ok X G (fact1 c (f := .free "list") (List.mem_of_getElem? (i := 27) rfl))
    f_int := He.free_ok X G (fact1 c (f := .free "int") (List.mem_of_getElem? (i := 29) rfl))
    f_dict := He.free_ok X G (fact1 c (f := .free "dict") (List.mem_of_getElem? (i := 31) rfl))
    f_bool := He.free_ok X G (fact1 c (f := .free "bool") (List.mem_of_getElem? (i := 32) rfl))
    f_str := He.free_ok X G (fact1 c (f := .free "str") (List.mem_of_getElem? (i := 33) rfl))
    cl := He.cls_ok (fact2 c (f := .cls "Land") (List.mem_of_getElem? (i := 16) rfl))
    n_base := He.noat_ok (fact2 c (f := .noat "Land" "base") (List.mem_of_getElem? (i := 17) rfl))
    n_grain := He.noat_ok (fact2 c (f := .noat "Land" "grain") (List.mem_of_getElem? (i := 18) rfl))
    n_code := He.noat_ok (fact2 c (f := .noat "Land" "code") (List.mem_of_getElem? (i := 19) rfl))
    n_codes := He.noat_ok (fact2 c (f := .noat "Land" "codes") (List.mem_of_getElem? (i := 20) rfl))
    n_laid := He.noat_ok (fact2 c (f := .noat "Land" "laid") (List.mem_of_getElem? (i := 21) rfl))
    n_last := He.noat_ok (fact2 c (f := .noat "Land" "last") (List.mem_of_getElem? (i := 22) rfl))
    n_past := He.noat_ok (fact2 c (f := .noat "Land" "past") (List.mem_of_getElem? (i := 23) rfl))
    n_future := He.noat_ok (fact2 c (f := .noat "Land" "future") (List.mem_of_getElem? (i := 24) rfl))
    n_room := He.noat_ok (fact2 c (f := .noat "Land" "room") (List.mem_of_getElem? (i := 25) rfl))
    n_shelf := He.noat_ok (fact2 c (f := .noat "Land" "shelf") (List.mem_of_getElem? (i := 26) rfl))
    WHOLE_LAND := He.glo_ok X G (fact1 c (f := .glo "WHOLE_LAND") (List.mem_of_getElem? (i := 11) rfl))
    qW := tupAtB_ok hW
    BESIDE := He.glo_ok X G (fact1 c (f := .glo "BESIDE") (List.mem_of_getElem? (i := 14) rfl))
    qB := tupAtB_ok hB1
    qb1 := tupAtB_ok (bes 0 (by decide))
    qb2 := tupAtB_ok (bes 1 (by decide))
    qb3 := tupAtB_ok (bes 2 (by decide))
    qb4 := tupAtB_ok (bes 3 (by decide))
    FORMS := He.glo_ok X G (fact1 c (f := .glo "FORMS") (List.mem_of_getElem? (i := 12) rfl))
    lF := (let ⟨_, _, k⟩ := dF; k.low)
    k_whole := kdct dF vF (q := ("whole", .str "N")) (List.mem_of_getElem? (i := 0) rfl)
    k_x := kdct dF vF (q := ("x", .str "")) (List.mem_of_getElem? (i := 1) rfl)
    k_z := kdct dF vF (q := ("z", .str "")) (List.mem_of_getElem? (i := 2) rfl)
    k_noise := kdct dF vF (q := ("noise", .str "SL")) (List.mem_of_getElem? (i := 3) rfl)
    k_plus := kdct dF vF (q := ("plus", .str "FF")) (List.mem_of_getElem? (i := 4) rfl)
    k_less := kdct dF vF (q := ("less", .str "FF")) (List.mem_of_getElem? (i := 5) rfl)
    k_times := kdct dF vF (q := ("times", .str "FF")) (List.mem_of_getElem? (i := 6) rfl)
    k_least := kdct dF vF (q := ("least", .str "FF")) (List.mem_of_getElem? (i := 7) rfl)
    k_most := kdct dF vF (q := ("most", .str "FF")) (List.mem_of_getElem? (i := 8) rfl)
    k_over := kdct dF vF (q := ("over", .str "FD")) (List.mem_of_getElem? (i := 9) rfl)
    k_below := kdct dF vF (q := ("below", .str "FFFF")) (List.mem_of_getElem? (i := 10) rfl)
    k_shift := kdct dF vF (q := ("shift", .str "MMF")) (List.mem_of_getElem? (i := 11) rfl)
    REACHES := He.glo_ok X G (fact1 c (f := .glo "REACHES") (List.mem_of_getElem? (i := 13) rfl))
    r_N := (reach_ok dR (q := ("N", (-999999999, 999999999))) (rch _ (List.mem_of_getElem? (i := 0) rfl))).1
    q_N := (reach_ok dR (q := ("N", (-999999999, 999999999))) (rch _ (List.mem_of_getElem? (i := 0) rfl))).2
    r_S := (reach_ok dR (q := ("S", (0, 1000000000))) (rch _ (List.mem_of_getElem? (i := 1) rfl))).1
    q_S := (reach_ok dR (q := ("S", (0, 1000000000))) (rch _ (List.mem_of_getElem? (i := 1) rfl))).2
    r_L := (reach_ok dR (q := ("L", (0, 8))) (rch _ (List.mem_of_getElem? (i := 2) rfl))).1
    q_L := (reach_ok dR (q := ("L", (0, 8))) (rch _ (List.mem_of_getElem? (i := 2) rfl))).2
    r_D := (reach_ok dR (q := ("D", (1, 1000000000))) (rch _ (List.mem_of_getElem? (i := 3) rfl))).1
    q_D := (reach_ok dR (q := ("D", (1, 1000000000))) (rch _ (List.mem_of_getElem? (i := 3) rfl))).2
    r_M := (reach_ok dR (q := ("M", (-1000, 1000))) (rch _ (List.mem_of_getElem? (i := 4) rfl))).1
    q_M := (reach_ok dR (q := ("M", (-1000, 1000))) (rch _ (List.mem_of_getElem? (i := 4) rfl))).2
    SORTS := He.glo_ok X G (fact1 c (f := .glo "SORTS") (List.mem_of_getElem? (i := 15) rfl))
    lS := (let ⟨_, _, k⟩ := dS; k.low)
    e_set := kdct dS vS (q := ("set", .int 3)) (List.mem_of_getElem? (i := 0) rfl)
    e_raise := kdct dS vS (q := ("raise", .int 3)) (List.mem_of_getElem? (i := 1) rfl)
    e_least := kdct dS vS (q := ("least", .int 3)) (List.mem_of_getElem? (i := 2) rfl)
    e_most := kdct dS vS (q := ("most", .int 3)) (List.mem_of_getElem? (i := 3) rfl)
    e_copy := kdct dS vS (q := ("copy", .int 4)) (List.mem_of_getElem? (i := 5) rfl)
  }
theorem d'knot (c : SaysK w K) (X : K.In h) (G : h.Ns mainGlobals mg) : DefAt K mg "knot" s_knot [] [] := by
  obtain ⟨fd, F⟩ := def0 c (d := d_knot) (List.mem_of_getElem? (i := 0) rfl)
  exact ⟨_, fd, He.glo_ok X G (fact0 c (f := .glo "knot") (List.mem_of_getElem? (i := 0) rfl)), F⟩
theorem d'is_whole (c : SaysK w K) (X : K.In h) (G : h.Ns mainGlobals mg) : DefAt K mg "is_whole" s_is_whole [] [] := by
  obtain ⟨fd, F⟩ := def0 c (d := d_is_whole) (List.mem_of_getElem? (i := 1) rfl)
  exact ⟨_, fd, He.glo_ok X G (fact0 c (f := .glo "is_whole") (List.mem_of_getElem? (i := 1) rfl)), F⟩
theorem d'must_point (c : SaysK w K) (X : K.In h) (G : h.Ns mainGlobals mg) : DefAt K mg "must_point" s_must_point [] [] := by
  obtain ⟨fd, F⟩ := def0 c (d := d_must_point) (List.mem_of_getElem? (i := 3) rfl)
  exact ⟨_, fd, He.glo_ok X G (fact0 c (f := .glo "must_point") (List.mem_of_getElem? (i := 3) rfl)), F⟩
theorem d'points_of (c : SaysK w K) (X : K.In h) (G : h.Ns mainGlobals mg) : DefAt K mg "points_of" s_points_of [] [] := by
  obtain ⟨fd, F⟩ := def0 c (d := d_points_of) (List.mem_of_getElem? (i := 4) rfl)
  exact ⟨_, fd, He.glo_ok X G (fact0 c (f := .glo "points_of") (List.mem_of_getElem? (i := 4) rfl)), F⟩
theorem d'must_kind (c : SaysK w K) (X : K.In h) (G : h.Ns mainGlobals mg) : DefAt K mg "must_kind" s_must_kind [] [] := by
  obtain ⟨fd, F⟩ := def0 c (d := d_must_kind) (List.mem_of_getElem? (i := 5) rfl)
  exact ⟨_, fd, He.glo_ok X G (fact0 c (f := .glo "must_kind") (List.mem_of_getElem? (i := 5) rfl)), F⟩
theorem d'must_things (c : SaysK w K) (X : K.In h) (G : h.Ns mainGlobals mg) : DefAt K mg "must_things" s_must_things [] [] := by
  obtain ⟨fd, F⟩ := def0 c (d := d_must_things) (List.mem_of_getElem? (i := 6) rfl)
  exact ⟨_, fd, He.glo_ok X G (fact0 c (f := .glo "must_things") (List.mem_of_getElem? (i := 6) rfl)), F⟩
theorem d'must_field (c : SaysK w K) (X : K.In h) (G : h.Ns mainGlobals mg) : DefAt K mg "must_field" s_must_field [] [] := by
  obtain ⟨fd, F⟩ := def0 c (d := d_must_field) (List.mem_of_getElem? (i := 7) rfl)
  exact ⟨_, fd, He.glo_ok X G (fact0 c (f := .glo "must_field") (List.mem_of_getElem? (i := 7) rfl)), F⟩
theorem d'parts_of (c : SaysK w K) (X : K.In h) (G : h.Ns mainGlobals mg) : DefAt K mg "parts_of" s_parts_of [] [] := by
  obtain ⟨fd, F⟩ := def0 c (d := d_parts_of) (List.mem_of_getElem? (i := 8) rfl)
  exact ⟨_, fd, He.glo_ok X G (fact0 c (f := .glo "parts_of") (List.mem_of_getElem? (i := 8) rfl)), F⟩
theorem d'size_of (c : SaysK w K) (X : K.In h) (G : h.Ns mainGlobals mg) : DefAt K mg "size_of" s_size_of [] [] := by
  obtain ⟨fd, F⟩ := def0 c (d := d_size_of) (List.mem_of_getElem? (i := 9) rfl)
  exact ⟨_, fd, He.glo_ok X G (fact0 c (f := .glo "size_of") (List.mem_of_getElem? (i := 9) rfl)), F⟩
theorem d'put (c : SaysK w K) (X : K.In h) (G : h.Ns mainGlobals mg) : DefAt K mg "put" s_put [] [] := by
  obtain ⟨fd, F⟩ := def0 c (d := d_put) (List.mem_of_getElem? (i := 10) rfl)
  exact ⟨_, fd, He.glo_ok X G (fact0 c (f := .glo "put") (List.mem_of_getElem? (i := 10) rfl)), F⟩
theorem d'steps_into (c : SaysK w K) (X : K.In h) (G : h.Ns mainGlobals mg) : DefAt K mg "steps_into" s_steps_into [] [] := by
  obtain ⟨fd, F⟩ := def0 c (d := d_steps_into) (List.mem_of_getElem? (i := 11) rfl)
  exact ⟨_, fd, He.glo_ok X G (fact0 c (f := .glo "steps_into") (List.mem_of_getElem? (i := 11) rfl)), F⟩
theorem d'steps_in (c : SaysK w K) (X : K.In h) (G : h.Ns mainGlobals mg) : DefAt K mg "steps_in" s_steps_in [] [] := by
  obtain ⟨fd, F⟩ := def1 c (d := d_steps_in) (List.mem_of_getElem? (i := 0) rfl)
  exact ⟨_, fd, He.glo_ok X G (fact0 c (f := .glo "steps_in") (List.mem_of_getElem? (i := 12) rfl)), F⟩
theorem d'must_rules (c : SaysK w K) (X : K.In h) (G : h.Ns mainGlobals mg) : DefAt K mg "must_rules" s_must_rules [] [] := by
  obtain ⟨fd, F⟩ := def1 c (d := d_must_rules) (List.mem_of_getElem? (i := 1) rfl)
  exact ⟨_, fd, He.glo_ok X G (fact0 c (f := .glo "must_rules") (List.mem_of_getElem? (i := 13) rfl)), F⟩
theorem d'noise_at (c : SaysK w K) (X : K.In h) (G : h.Ns mainGlobals mg) : DefAt K mg "noise_at" s_noise_at [] [] := by
  obtain ⟨fd, F⟩ := def1 c (d := d_noise_at) (List.mem_of_getElem? (i := 2) rfl)
  exact ⟨_, fd, He.glo_ok X G (fact0 c (f := .glo "noise_at") (List.mem_of_getElem? (i := 14) rfl)), F⟩
theorem d'reckoned (c : SaysK w K) (X : K.In h) (G : h.Ns mainGlobals mg) : DefAt K mg "reckoned" s_reckoned [] [] := by
  obtain ⟨fd, F⟩ := def1 c (d := d_reckoned) (List.mem_of_getElem? (i := 3) rfl)
  exact ⟨_, fd, He.glo_ok X G (fact0 c (f := .glo "reckoned") (List.mem_of_getElem? (i := 15) rfl)), F⟩
theorem d'run_steps (c : SaysK w K) (X : K.In h) (G : h.Ns mainGlobals mg) : DefAt K mg "run_steps" s_run_steps [] [] := by
  obtain ⟨fd, F⟩ := def1 c (d := d_run_steps) (List.mem_of_getElem? (i := 4) rfl)
  exact ⟨_, fd, He.glo_ok X G (fact0 c (f := .glo "run_steps") (List.mem_of_getElem? (i := 16) rfl)), F⟩
theorem d'noise_range (c : SaysK w K) (X : K.In h) (G : h.Ns mainGlobals mg) : DefAt K mg "noise_range" s_noise_range [] [] := by
  obtain ⟨fd, F⟩ := def1 c (d := d_noise_range) (List.mem_of_getElem? (i := 5) rfl)
  exact ⟨_, fd, He.glo_ok X G (fact0 c (f := .glo "noise_range") (List.mem_of_getElem? (i := 17) rfl)), F⟩
theorem d'range_of (c : SaysK w K) (X : K.In h) (G : h.Ns mainGlobals mg) : DefAt K mg "range_of" s_range_of [] [] := by
  obtain ⟨fd, F⟩ := def1 c (d := d_range_of) (List.mem_of_getElem? (i := 6) rfl)
  exact ⟨_, fd, He.glo_ok X G (fact0 c (f := .glo "range_of") (List.mem_of_getElem? (i := 18) rfl)), F⟩
theorem d'ranges_of (c : SaysK w K) (X : K.In h) (G : h.Ns mainGlobals mg) : DefAt K mg "ranges_of" s_ranges_of [] [] := by
  obtain ⟨fd, F⟩ := def1 c (d := d_ranges_of) (List.mem_of_getElem? (i := 7) rfl)
  exact ⟨_, fd, He.glo_ok X G (fact0 c (f := .glo "ranges_of") (List.mem_of_getElem? (i := 19) rfl)), F⟩
theorem d'holds (c : SaysK w K) (X : K.In h) (G : h.Ns mainGlobals mg) : DefAt K mg "holds" s_holds [] [] := by
  obtain ⟨fd, F⟩ := def1 c (d := d_holds) (List.mem_of_getElem? (i := 8) rfl)
  exact ⟨_, fd, He.glo_ok X G (fact0 c (f := .glo "holds") (List.mem_of_getElem? (i := 20) rfl)), F⟩
theorem d'must_within (c : SaysK w K) (X : K.In h) (G : h.Ns mainGlobals mg) : DefAt K mg "must_within" s_must_within [] [] := by
  obtain ⟨fd, F⟩ := def1 c (d := d_must_within) (List.mem_of_getElem? (i := 9) rfl)
  exact ⟨_, fd, He.glo_ok X G (fact0 c (f := .glo "must_within") (List.mem_of_getElem? (i := 21) rfl)), F⟩
theorem d'heights_in (c : SaysK w K) (X : K.In h) (G : h.Ns mainGlobals mg) : DefAt K mg "heights_in" s_heights_in [] [] := by
  obtain ⟨fd, F⟩ := def1 c (d := d_heights_in) (List.mem_of_getElem? (i := 10) rfl)
  exact ⟨_, fd, He.glo_ok X G (fact0 c (f := .glo "heights_in") (List.mem_of_getElem? (i := 22) rfl)), F⟩
theorem d'neighbours (c : SaysK w K) (X : K.In h) (G : h.Ns mainGlobals mg) : DefAt K mg "neighbours" s_neighbours [] [] := by
  obtain ⟨fd, F⟩ := def1 c (d := d_neighbours) (List.mem_of_getElem? (i := 11) rfl)
  exact ⟨_, fd, He.glo_ok X G (fact0 c (f := .glo "neighbours") (List.mem_of_getElem? (i := 23) rfl)), F⟩
theorem d'led (c : SaysK w K) (X : K.In h) (G : h.Ns mainGlobals mg) : DefAt K mg "led" s_led [] [] := by
  obtain ⟨fd, F⟩ := def2 c (d := d_led) (List.mem_of_getElem? (i := 0) rfl)
  exact ⟨_, fd, He.glo_ok X G (fact0 c (f := .glo "led") (List.mem_of_getElem? (i := 24) rfl)), F⟩
theorem d'must_spring (c : SaysK w K) (X : K.In h) (G : h.Ns mainGlobals mg) : DefAt K mg "must_spring" s_must_spring [] [] := by
  obtain ⟨fd, F⟩ := def2 c (d := d_must_spring) (List.mem_of_getElem? (i := 1) rfl)
  exact ⟨_, fd, He.glo_ok X G (fact0 c (f := .glo "must_spring") (List.mem_of_getElem? (i := 25) rfl)), F⟩
theorem d'at_edge (c : SaysK w K) (X : K.In h) (G : h.Ns mainGlobals mg) : DefAt K mg "at_edge" s_at_edge [] [] := by
  obtain ⟨fd, F⟩ := def2 c (d := d_at_edge) (List.mem_of_getElem? (i := 2) rfl)
  exact ⟨_, fd, He.glo_ok X G (fact0 c (f := .glo "at_edge") (List.mem_of_getElem? (i := 26) rfl)), F⟩
theorem d'wet_from (c : SaysK w K) (X : K.In h) (G : h.Ns mainGlobals mg) : DefAt K mg "wet_from" s_wet_from [] [] := by
  obtain ⟨fd, F⟩ := def2 c (d := d_wet_from) (List.mem_of_getElem? (i := 3) rfl)
  exact ⟨_, fd, He.glo_ok X G (fact0 c (f := .glo "wet_from") (List.mem_of_getElem? (i := 27) rfl)), F⟩
theorem d'first_out (c : SaysK w K) (X : K.In h) (G : h.Ns mainGlobals mg) : DefAt K mg "first_out" s_first_out [] [] := by
  obtain ⟨fd, F⟩ := def2 c (d := d_first_out) (List.mem_of_getElem? (i := 4) rfl)
  exact ⟨_, fd, He.glo_ok X G (fact0 c (f := .glo "first_out") (List.mem_of_getElem? (i := 28) rfl)), F⟩
theorem d'poured (c : SaysK w K) (X : K.In h) (G : h.Ns mainGlobals mg) : DefAt K mg "poured" s_poured [] [] := by
  obtain ⟨fd, F⟩ := def2 c (d := d_poured) (List.mem_of_getElem? (i := 5) rfl)
  exact ⟨_, fd, He.glo_ok X G (fact0 c (f := .glo "poured") (List.mem_of_getElem? (i := 29) rfl)), F⟩
theorem d'least_level (c : SaysK w K) (X : K.In h) (G : h.Ns mainGlobals mg) : DefAt K mg "least_level" s_least_level [] [] := by
  obtain ⟨fd, F⟩ := def2 c (d := d_least_level) (List.mem_of_getElem? (i := 6) rfl)
  exact ⟨_, fd, He.glo_ok X G (fact0 c (f := .glo "least_level") (List.mem_of_getElem? (i := 30) rfl)), F⟩
theorem d'must_edit (c : SaysK w K) (X : K.In h) (G : h.Ns mainGlobals mg) : DefAt K mg "must_edit" s_must_edit [] [] := by
  obtain ⟨fd, F⟩ := def2 c (d := d_must_edit) (List.mem_of_getElem? (i := 7) rfl)
  exact ⟨_, fd, He.glo_ok X G (fact0 c (f := .glo "must_edit") (List.mem_of_getElem? (i := 31) rfl)), F⟩
theorem d'has_point (c : SaysK w K) (X : K.In h) (G : h.Ns mainGlobals mg) : DefAt K mg "has_point" s_has_point [] [] := by
  obtain ⟨fd, F⟩ := def2 c (d := d_has_point) (List.mem_of_getElem? (i := 8) rfl)
  exact ⟨_, fd, He.glo_ok X G (fact0 c (f := .glo "has_point") (List.mem_of_getElem? (i := 32) rfl)), F⟩
theorem d'range_after (c : SaysK w K) (X : K.In h) (G : h.Ns mainGlobals mg) : DefAt K mg "range_after" s_range_after [] [] := by
  obtain ⟨fd, F⟩ := def2 c (d := d_range_after) (List.mem_of_getElem? (i := 9) rfl)
  exact ⟨_, fd, He.glo_ok X G (fact0 c (f := .glo "range_after") (List.mem_of_getElem? (i := 33) rfl)), F⟩
theorem d'overlays (c : SaysK w K) (X : K.In h) (G : h.Ns mainGlobals mg) : DefAt K mg "overlays" s_overlays [] [] := by
  obtain ⟨fd, F⟩ := def2 c (d := d_overlays) (List.mem_of_getElem? (i := 10) rfl)
  exact ⟨_, fd, He.glo_ok X G (fact0 c (f := .glo "overlays") (List.mem_of_getElem? (i := 34) rfl)), F⟩
theorem m_height_by (c : SaysK w K) : MethAt K (ads K).C "height_by" "Land.height_by" s_Land_height_by := by
  obtain ⟨fd, F⟩ := def3 c (d := d_Land_height_by) (List.mem_of_getElem? (i := 0) rfl)
  exact ⟨_, fd, He.meth_ok (fact2 c (f := .meth "Land" "height_by") (List.mem_of_getElem? (i := 27) rfl)), F⟩
theorem m_height_at (c : SaysK w K) : MethAt K (ads K).C "height_at" "Land.height_at" s_Land_height_at := by
  obtain ⟨fd, F⟩ := def3 c (d := d_Land_height_at) (List.mem_of_getElem? (i := 1) rfl)
  exact ⟨_, fd, He.meth_ok (fact2 c (f := .meth "Land" "height_at") (List.mem_of_getElem? (i := 28) rfl)), F⟩
theorem m_height (c : SaysK w K) : MethAt K (ads K).C "height" "Land.height" s_Land_height := by
  obtain ⟨fd, F⟩ := def3 c (d := d_Land_height) (List.mem_of_getElem? (i := 2) rfl)
  exact ⟨_, fd, He.meth_ok (fact2 c (f := .meth "Land" "height") (List.mem_of_getElem? (i := 29) rfl)), F⟩
theorem m_change (c : SaysK w K) : MethAt K (ads K).C "change" "Land.change" s_Land_change := by
  obtain ⟨fd, F⟩ := def3 c (d := d_Land_change) (List.mem_of_getElem? (i := 3) rfl)
  exact ⟨_, fd, He.meth_ok (fact2 c (f := .meth "Land" "change") (List.mem_of_getElem? (i := 30) rfl)), F⟩
theorem m_noted (c : SaysK w K) : MethAt K (ads K).C "noted" "Land.noted" s_Land_noted := by
  obtain ⟨fd, F⟩ := def3 c (d := d_Land_noted) (List.mem_of_getElem? (i := 4) rfl)
  exact ⟨_, fd, He.meth_ok (fact2 c (f := .meth "Land" "noted") (List.mem_of_getElem? (i := 31) rfl)), F⟩
theorem m_put (c : SaysK w K) : MethAt K (ads K).C "put" "Land.put" s_Land_put := by
  obtain ⟨fd, F⟩ := def3 c (d := d_Land_put) (List.mem_of_getElem? (i := 5) rfl)
  exact ⟨_, fd, He.meth_ok (fact2 c (f := .meth "Land" "put") (List.mem_of_getElem? (i := 32) rfl)), F⟩
theorem m_edit (c : SaysK w K) : MethAt K (ads K).C "edit" "Land.edit" s_Land_edit := by
  obtain ⟨fd, F⟩ := def3 c (d := d_Land_edit) (List.mem_of_getElem? (i := 6) rfl)
  exact ⟨_, fd, He.meth_ok (fact2 c (f := .meth "Land" "edit") (List.mem_of_getElem? (i := 33) rfl)), F⟩
theorem m_back (c : SaysK w K) : MethAt K (ads K).C "back" "Land.back" s_Land_back := by
  obtain ⟨fd, F⟩ := def3 c (d := d_Land_back) (List.mem_of_getElem? (i := 7) rfl)
  exact ⟨_, fd, He.meth_ok (fact2 c (f := .meth "Land" "back") (List.mem_of_getElem? (i := 34) rfl)), F⟩
theorem d'nearest (c : SaysK w K) (X : K.In h) (G : h.Ns mainGlobals mg) : DefAt K mg "nearest" s_nearest [] [] := by
  obtain ⟨fd, F⟩ := def3 c (d := d_nearest) (List.mem_of_getElem? (i := 8) rfl)
  exact ⟨_, fd, He.glo_ok X G (fact0 c (f := .glo "nearest") (List.mem_of_getElem? (i := 35) rfl)), F⟩
theorem d'lowest (c : SaysK w K) (X : K.In h) (G : h.Ns mainGlobals mg) : DefAt K mg "lowest" s_lowest [] [] := by
  obtain ⟨fd, F⟩ := def3 c (d := d_lowest) (List.mem_of_getElem? (i := 9) rfl)
  exact ⟨_, fd, He.glo_ok X G (fact0 c (f := .glo "lowest") (List.mem_of_getElem? (i := 36) rfl)), F⟩
theorem d'_law_at (c : SaysK w K) (X : K.In h) (G : h.Ns mainGlobals mg) : DefAt K mg "_law_at" s__law_at [] [] := by
  obtain ⟨fd, F⟩ := def3 c (d := d__law_at) (List.mem_of_getElem? (i := 11) rfl)
  exact ⟨_, fd, He.glo_ok X G (fact0 c (f := .glo "_law_at") (List.mem_of_getElem? (i := 38) rfl)), F⟩
theorem d'_law_mixed (c : SaysK w K) (X : K.In h) (G : h.Ns mainGlobals mg) : DefAt K mg "_law_mixed" s__law_mixed [] [] := by
  obtain ⟨fd, F⟩ := def4 c (d := d__law_mixed) (List.mem_of_getElem? (i := 0) rfl)
  exact ⟨_, fd, He.glo_ok X G (fact0 c (f := .glo "_law_mixed") (List.mem_of_getElem? (i := 39) rfl)), F⟩
theorem d'_law_purse (c : SaysK w K) (X : K.In h) (G : h.Ns mainGlobals mg) : DefAt K mg "_law_purse" s__law_purse [] [] := by
  obtain ⟨fd, F⟩ := def4 c (d := d__law_purse) (List.mem_of_getElem? (i := 1) rfl)
  exact ⟨_, fd, He.glo_ok X G (fact1 c (f := .glo "_law_purse") (List.mem_of_getElem? (i := 0) rfl)), F⟩
theorem d'_law_draw (c : SaysK w K) (X : K.In h) (G : h.Ns mainGlobals mg) : DefAt K mg "_law_draw" s__law_draw [] [] := by
  obtain ⟨fd, F⟩ := def4 c (d := d__law_draw) (List.mem_of_getElem? (i := 2) rfl)
  exact ⟨_, fd, He.glo_ok X G (fact1 c (f := .glo "_law_draw") (List.mem_of_getElem? (i := 1) rfl)), F⟩
theorem d'_law_rules (c : SaysK w K) (X : K.In h) (G : h.Ns mainGlobals mg) : DefAt K mg "_law_rules" s__law_rules [] [] := by
  obtain ⟨fd, F⟩ := def4 c (d := d__law_rules) (List.mem_of_getElem? (i := 3) rfl)
  exact ⟨_, fd, He.glo_ok X G (fact1 c (f := .glo "_law_rules") (List.mem_of_getElem? (i := 2) rfl)), F⟩
theorem d'_law_edits (c : SaysK w K) (X : K.In h) (G : h.Ns mainGlobals mg) : DefAt K mg "_law_edits" s__law_edits [] [] := by
  obtain ⟨fd, F⟩ := def4 c (d := d__law_edits) (List.mem_of_getElem? (i := 4) rfl)
  exact ⟨_, fd, He.glo_ok X G (fact1 c (f := .glo "_law_edits") (List.mem_of_getElem? (i := 3) rfl)), F⟩
theorem d'_law_box (c : SaysK w K) (X : K.In h) (G : h.Ns mainGlobals mg) : DefAt K mg "_law_box" s__law_box [] [] := by
  obtain ⟨fd, F⟩ := def4 c (d := d__law_box) (List.mem_of_getElem? (i := 5) rfl)
  exact ⟨_, fd, He.glo_ok X G (fact1 c (f := .glo "_law_box") (List.mem_of_getElem? (i := 4) rfl)), F⟩
theorem d'_law_spot (c : SaysK w K) (X : K.In h) (G : h.Ns mainGlobals mg) : DefAt K mg "_law_spot" s__law_spot [] [] := by
  obtain ⟨fd, F⟩ := def4 c (d := d__law_spot) (List.mem_of_getElem? (i := 6) rfl)
  exact ⟨_, fd, He.glo_ok X G (fact1 c (f := .glo "_law_spot") (List.mem_of_getElem? (i := 5) rfl)), F⟩
theorem d'_law_levels_right (c : SaysK w K) (X : K.In h) (G : h.Ns mainGlobals mg) : DefAt K mg "_law_levels_right" s__law_levels_right [] [] := by
  obtain ⟨fd, F⟩ := def4 c (d := d__law_levels_right) (List.mem_of_getElem? (i := 7) rfl)
  exact ⟨_, fd, He.glo_ok X G (fact1 c (f := .glo "_law_levels_right") (List.mem_of_getElem? (i := 6) rfl)), F⟩
theorem d'_law_shuts_right (c : SaysK w K) (X : K.In h) (G : h.Ns mainGlobals mg) : DefAt K mg "_law_shuts_right" s__law_shuts_right [] [] := by
  obtain ⟨fd, F⟩ := def4 c (d := d__law_shuts_right) (List.mem_of_getElem? (i := 8) rfl)
  exact ⟨_, fd, He.glo_ok X G (fact1 c (f := .glo "_law_shuts_right") (List.mem_of_getElem? (i := 7) rfl)), F⟩
theorem d'_law_sight_right (c : SaysK w K) (X : K.In h) (G : h.Ns mainGlobals mg) : DefAt K mg "_law_sight_right" s__law_sight_right [] [] := by
  obtain ⟨fd, F⟩ := def4 c (d := d__law_sight_right) (List.mem_of_getElem? (i := 9) rfl)
  exact ⟨_, fd, He.glo_ok X G (fact1 c (f := .glo "_law_sight_right") (List.mem_of_getElem? (i := 8) rfl)), F⟩
theorem d'law (c : SaysK w K) (X : K.In h) (G : h.Ns mainGlobals mg) : DefAt K mg "law" s_law [] [] := by
  obtain ⟨fd, F⟩ := def4 c (d := d_law) (List.mem_of_getElem? (i := 10) rfl)
  exact ⟨_, fd, He.glo_ok X G (fact1 c (f := .glo "law") (List.mem_of_getElem? (i := 9) rfl)), F⟩
end
end KwH
set_option Elab.async false
set_option linter.all false
set_option maxRecDepth 100000
set_option maxHeartbeats 2000000
/-! The whole: the law's function keeps its promise. -/
namespace KwH
open PySem PySem.Spec PyProof.Rows L2 Kw
section
variable {P : Program} {w : World} {K : PySem.W.Frag} {h base : Heap} {mg : Str → Option Value}
theorem len_mb {vs : List V} {H : Hp} {Q : VK} {E : XK} (h : spMustBox K vs H Q E) : vs.length = 2 := by
  obtain ⟨_, _, _, _, _, _, rfl, _⟩ := h
  rfl
theorem g_must_box (c : SaysK w K) (X : K.In h) (G : h.Ns mainGlobals mg) : Has P w K mg base 1 "must_box" (spMustBox K) [.non] ∧ HasK P w K mg base 1 "must_box" (spMustBox K) 1 ["most"] gApp := by
  obtain ⟨fd, F⟩ := def0 c (d := d_must_box) (List.mem_of_getElem? (i := 2) rfl)
  have hm := He.glo_ok X G (fact0 c (f := .glo "must_box") (List.mem_of_getElem? (i := 2) rfl))
  have ok : FnOk P w K mg base CX0 1 _ fd ["box", "most"] (spMustBox K) := fok_of F sc_must_box (fun _ _ _ _ h => len_mb h) (b_must_box (txt c X G))
  refine ⟨?_, ?_⟩
  · obtain ⟨ds, h1, h2⟩ := FunD.binds1 (ps := ["box", "most"]) F 1 0 (List.cons_ne_nil _ _) rfl fun T _ _ _ _ _ _ us its l1 l2 => match us, its, l1, l2 with
      | [_], [_], _, _ => ⟨_, rfl, rfl⟩
    exact ⟨_, fd, _, ds, hm, F.kp, ok, h1, h2⟩
  · obtain ⟨its, hk⟩ := FunD.kbindsD (ps := ["box", "most"]) F 1 ["most"] (fun us _ ws => us ++ ws) (List.cons_ne_nil _ _) (fun a _ b => a.append b) fun T _ _ _ _ _ _ us its ws l1 l2 l3 => match us, its, ws, l1, l2, l3 with
      | [_], [_], [_], _, _, _ => ⟨_, rfl, rfl⟩
    exact ⟨_, fd, _, _, hm, F.kp, ok, hk⟩
theorem g_sees (c : SaysK w K) (X : K.In h) (G : h.Ns mainGlobals mg) (b : BodyOk P w K mg base "sees" s_sees nm_sees 27 (spSees K (ads K))) : HasK P w K mg base 28 "sees" (spSees K (ads K)) 3 ["eye"] gApp := by
  obtain ⟨fd, F⟩ := def3 c (d := d_sees) (List.mem_of_getElem? (i := 10) rfl)
  have hm := He.glo_ok X G (fact0 c (f := .glo "sees") (List.mem_of_getElem? (i := 37) rfl))
  have ok : FnOk P w K mg base CX0 28 _ fd ["land", "one", "other", "eye"] (spSees K (ads K)) := fok_of F sc_sees (fun _ _ _ _ h => by
    obtain ⟨_, _, _, _, _, _, _, _, _, _, rfl, _⟩ := h
    rfl) b
  obtain ⟨mv, hk⟩ := FunD.kbinds0 (ps := ["land", "one", "other", "eye"]) F 3 ["eye"] [] (fun us _ ws => us ++ ws) (List.cons_ne_nil _ _) (fun _ h => nomatch h) (fun a _ b => a.append b) fun D _ _ _ _ _ us mv ws l1 l2 l3 => match us, mv, ws, l1, l2, l3 with
    | [_, _, _], [], [_], _, _, _ => rfl
  exact ⟨_, fd, _, _, hm, F.kp, ok, hk⟩
theorem g_land (c : SaysK w K) (X : K.In h) (G : h.Ns mainGlobals mg) (b : BodyOk P w K mg base "Land.__init__" s_Land___init__ nm_Land___init__ 11 (spInit (ads K))) : HasC P w K mg base 12 "Land" (ads K).C (spInit (ads K)) [.int 64] := by
  obtain ⟨fd, F⟩ := def2 c (d := d_Land___init__) (List.mem_of_getElem? (i := 11) rfl)
  have hm := He.glo_ok X G (fact1 c (f := .glo "Land") (List.mem_of_getElem? (i := 10) rfl))
  have mk := He.mkr_ok (fact2 c (f := .mkr "Land") (List.mem_of_getElem? (i := 35) rfl))
  have ok : FnOk P w K mg base CX0 12 _ fd ["self", "rules", "seed", "memory"] (spInit (ads K)) := fok_of F sc_Land___init__ (fun _ _ _ _ h => by
    obtain ⟨_, _, _, _, rfl, _⟩ := h
    rfl) b
  obtain ⟨ds, h1, h2⟩ := FunD.binds0 (ps := ["self", "rules", "seed", "memory"]) F 3 (List.cons_ne_nil _ _) rfl fun D _ _ _ _ _ us ks l1 l2 => match us, ks, l1, l2 with
    | [_, _, _], [_], _, _ => ⟨_, _, _, _, _, _, rfl, rfl, rfl⟩
  exact ⟨_, fd, _, ds, hm, mk, ok, h1, h2⟩
theorem law_fn (c : SaysK w K) (X : K.In h) (G : h.Ns mainGlobals mg) : ∃ f fd, mg "law" = some (.ref f) ∧ FunD K "law" "law" (defArgs s_law) (defBody s_law) (defScope s_law) [] [] f fd ∧ FnOk P w K mg base CX0 30 f fd ["_law_script"] (spLaw K) := by
  have T := txt c X G
  have G_must_box : Has P w K mg base 1 "must_box" (spMustBox K) [.non] := (g_must_box c X G).1
  have G_must_box_k : HasK P w K mg base 1 "must_box" (spMustBox K) 1 ["most"] gApp := (g_must_box c X G).2
  have G_knot := h_knot (base := base) (P := P) (d'knot c X G) T 
  have G_is_whole := h_is_whole (base := base) (P := P) (d'is_whole c X G) T 
  have G_must_point := h_must_point (base := base) (P := P) (d'must_point c X G) T 
  have G_holds := h_holds (base := base) (P := P) (d'holds c X G) T 
  have G_has_point := h_has_point (base := base) (P := P) (d'has_point c X G) T 
  have G_at_edge := h_at_edge (base := base) (P := P) (d'at_edge c X G) T 
  have G_nearest := h_nearest (base := base) (P := P) (d'nearest c X G) T 
  have G_lowest := h_lowest (base := base) (P := P) (d'lowest c X G) T 
  have G_law_mixed := h_law_mixed (base := base) (P := P) (d'_law_mixed c X G) T 
  have G_law_at := h_law_at (base := base) (P := P) (d'_law_at c X G) T 
  have G_law_purse := h_law_purse (base := base) (P := P) (d'_law_purse c X G) T G_law_at
  have G_law_draw := h_law_draw (base := base) (P := P) (d'_law_draw c X G) T G_law_mixed
  have G_law_box := h_law_box (base := base) (P := P) (d'_law_box c X G) T G_law_draw
  have G_law_spot := h_law_spot (base := base) (P := P) (d'_law_spot c X G) T G_law_draw
  have G_must_kind := h_must_kind (base := base) (P := P) (d'must_kind c X G) T 
  have G_must_field := h_must_field (base := base) (P := P) T (d'must_field c X G) (d'must_things c X G) G_is_whole G_must_kind 2
  have G_parts_of := h_parts_of (base := base) (P := P) (d'parts_of c X G) T 
  have G_size_of := h_size_of (base := base) (P := P) T (d'size_of c X G) G_parts_of 2
  have G_put0 := h_put (base := base) (P := P) (d'put c X G) T
  have G_steps_into := h_steps_into (base := base) (P := P) 2 T (d'steps_into c X G) G_parts_of G_put0 2
  have G_steps_in := h_steps_in (base := base) (P := P) (d'steps_in c X G) T G_steps_into
  have G_noise_at := h_noise_at (base := base) (P := P) (d'noise_at c X G) T G_knot
  have G_reckoned := h_reckoned (base := base) (P := P) (d'reckoned c X G) T 
  have G_run_steps := h_run_steps (base := base) (P := P) (d'run_steps c X G) T G_noise_at G_reckoned
  have G_noise_range := h_noise_range (base := base) (P := P) (d'noise_range c X G) T 
  have G_range_of := h_range_of (base := base) (P := P) (d'range_of c X G) T 
  have G_ranges_of := h_ranges_of (base := base) (P := P) (d'ranges_of c X G) T G_noise_range G_range_of
  have G_must_rules := h_must_rules (base := base) (P := P) (d'must_rules c X G) T G_must_field G_size_of G_steps_in G_ranges_of
  have G_law_rules := h_law_rules (base := base) (P := P) T (d'_law_rules c X G) G_law_draw 2 (by decide)
  have G_must_edit := h_must_edit (base := base) (P := P) (d'must_edit c X G) T G_must_box G_is_whole
  have G_overlays := h_overlays (base := base) (P := P) (d'overlays c X G) T 
  have G_range_after := h_range_after (base := base) (P := P) (d'range_after c X G) T 
  have G_height_by := h_height_by (base := base) (P := P) T (m_height_by c) G_overlays G_has_point G_run_steps G_range_after 20 (by decide)
  have G_height_at := h_height_at (base := base) (P := P) T (m_height_at c) G_height_by
  have G_height := h_height (base := base) (P := P) T (m_height c) G_must_point G_height_at
  have G_change := h_change (base := base) (P := P) T (m_change c) 
  have G_noted := h_noted (base := base) (P := P) T (m_noted c) 
  have G_put := h_putE (base := base) (P := P) T (m_put c) G_must_edit G_change
  have G_edit := h_editM (base := base) (P := P) T (m_edit c) G_put G_noted
  have G_back := h_back (base := base) (P := P) T (m_back c) G_change
  have G_Land := g_land c X G (b_init (base := base) (P := P) T G_must_rules G_is_whole G_steps_in)
  have G_points_of := h_points_of (base := base) (P := P) (d'points_of c X G) T 
  have G_heights_in := h_heights_in (base := base) (P := P) (d'heights_in c X G) T G_points_of G_height
  have G_must_within := h_must_within (base := base) (P := P) (d'must_within c X G) T G_holds
  have G_must_spring := h_must_spring (base := base) (P := P) (d'must_spring c X G) T G_must_box_k G_must_within
  have G_neighbours := h_neighbours (base := base) (P := P) (d'neighbours c X G) T 
  have G_led := h_led (base := base) (P := P) (d'led c X G) T 
  have G_wet_from := h_wet_from (base := base) (P := P) (d'wet_from c X G) T G_neighbours
  have G_first_out := h_first_out (base := base) (P := P) (d'first_out c X G) T G_at_edge
  have G_poured := h_poured (base := base) (P := P) (d'poured c X G) T G_must_spring G_heights_in G_wet_from G_first_out G_led
  have G_least_level := h_least_level (base := base) (P := P) (d'least_level c X G) T G_must_spring G_heights_in G_wet_from G_first_out
  have G_sees_k := g_sees c X G (b_sees (base := base) (P := P) T G_must_point G_height G_nearest G_lowest)
  have G_law_edits := h_law_edits (base := base) (P := P) (d'_law_edits c X G) T G_law_draw
  have G_law_levels_right := h_levels (base := base) (P := P) (d'_law_levels_right c X G) T G_least_level G_poured G_height
  have G_law_shuts_right := h_shuts (base := base) (P := P) (d'_law_shuts_right c X G) T G_least_level G_height G_edit G_back
  have G_law_sight_right := h_sight (base := base) (P := P) (d'_law_sight_right c X G) T G_law_draw G_sees_k
  exact h_law (base := base) (P := P) (d'law c X G) T G_law_purse G_law_rules G_law_draw G_law_box G_Land G_law_edits G_edit G_law_spot G_law_levels_right G_law_shuts_right G_law_sight_right
end
theorem facts {P : Program} {w : World} {K : PySem.W.Frag} {h : Heap} {mg : Str → Option Value} {f : Addr} (X : K.In h) (G : h.Ns mainGlobals mg) (hfa : mg ("law" : Str) = some (.ref f)) (c : SaysK w K) :
    ∃ fd : FuncData, (∀ (s : Shared) (v : Value), BindsTo s fd ⟨[v], []⟩ [("_law_script", v)]) ∧ ∀ base : Heap, FnOk P w K mg base CX0 30 f fd ["_law_script"] (spLaw K) := by
  obtain ⟨fd, F⟩ := def4 c (d := d_law) (List.mem_of_getElem? (i := 10) rfl)
  have hl := He.glo_ok X G (fact1 c (f := .glo "law") (List.mem_of_getElem? (i := 9) rfl))
  obtain rfl : f = He.ga K "law" := by
    have e := hfa.symm.trans hl
    cases e
    rfl
  have b := FunD.bindsA (ps := ["_law_script"]) F fun _ _ _ _ _ _ us hl => match us, hl with | [_], _ => rfl
  refine ⟨fd, fun s v => b s [v] rfl, fun base => ?_⟩
  obtain ⟨f', fd', e1, F', ok⟩ := law_fn (P := P) (base := base) c X G
  obtain rfl : f' = He.ga K "law" := by
    have e := e1.symm.trans hl
    cases e
    rfl
  obtain ⟨oc, od, dV, kV, doc, pm, an, cdv, ct, osl, hfd, lk, _⟩ := F.ex
  obtain ⟨oc', od', dV', kV', doc', pm', an', cdv', ct', osl', hfd', lk', _⟩ := F'.ex
  have e2 := lk.symm.trans lk'
  cases e2
  exact ok
end KwH
set_option Elab.async false
set_option linter.all false
set_option maxRecDepth 100000
set_option maxHeartbeats 0
open PySem PySem.W PySem.Calls PyProof.Rows
theorem PySem.Challenge.cw_landweave_k95_whole_water_and_sight_holds : PySem.Challenge.rw_landweave_k95_whole_water_and_sight.Holds := by
  w_on; o_law
  refine HandSHeadRun.head_any (r := OpenLaw.row PySem.Challenge.rw_landweave_k95_whole_water_and_sight) (q := view (OpenLaw.row PySem.Challenge.rw_landweave_k95_whole_water_and_sight).prog [99]) (H := KwH.hkH) (ob := KwH.obH) (M := 6000) (loose := KwH.names) (d := HandSHeadRun.topDef (OpenLaw.row PySem.Challenge.rw_landweave_k95_whole_water_and_sight).prog 99) (kwd := []) KwH.obH_eq
    (by kernel_rfl) (fun s => by kernel_rfl) KwH.runH (by kernel_rfl) (by kernel_rfl) (by kernel_rfl) (by rfl) (by first | assumption | decide +kernel) (by decide +kernel) ⟨rfl, rfl, rfl, rfl, rfl, by decide +kernel⟩ ?hw ?hc
  case hw => w_witness2
  case hc =>
    refine L2.walk_ofE (l := PySem.Challenge.rw_landweave_k95_whole_water_and_sight) (n := 63) (k := 30) (x := "_law_script") (CX := L2.CX0) rfl (by decide) (by kernel_rfl) ⟨rfl, by decide, by decide⟩ ?F (fun _ _ _ _ z => z)
    intro w mg fa h Y G hmg0
    obtain ⟨K, KX, c⟩ := Y
    have hmg : mg ("law" : PySem.Str) = some (.ref fa) := by
      have e : (HandSHeadRun.topDef (OpenLaw.row PySem.Challenge.rw_landweave_k95_whole_water_and_sight).prog 99).name = ("law" : PySem.Str) := by kernel_rfl
      rw [← e]
      exact hmg0
    obtain ⟨fd, hb, hF⟩ := KwH.facts (P := (PySem.Challenge.rw_landweave_k95_whole_water_and_sight).prog) (w := w) KX G hmg c
    exact ⟨K, fd, Kw.spLaw K, KX, hb, fun H a ns hl _ hS => ⟨a, ns, rfl, hS, hl, fun _ => rfl⟩, fun base _ _ => hF base⟩
