import PyProof.Rows.All
import Wide.All
import OpenK.AllK
import Wide.FinOn
import HandS.ForMost
import PySem.Challenge.RW_anypads_k32_whole_zones_joined_and_compa
import HandS.Head2
import HandS.HeadHook4
import HandS.HeadWalk
import HandS.ClsMeth
import HandS.ExcInit
import HandS.ExcField
import HandS.ExcIs
import KE.KSuper
import HandS.IsInst
import HandS.Star
import HandS.Style
import HandS.Flow
import HandS.WordsExc
import HandS.Defaults
import HandS.SlotsOwn
import HandS.FStr
import HandS.OwnEq
import HandS.Walk
import KE.GoesMore
import HandS.Codes
import HandS.DictComp
import HandS.DictTup
import HandS.WordsDict
import KE.KStar
import HandS.MakeKwOnly
import HandS.Slots
import HandS.MethStar
import PyProof.DictUpdate
import PyProof.DictDisplay
import KE.KEqDict
import PyProof.EqKinds
import PyProof.NeKinds
import HandS.Exc
import HandS.Nested
import HandS.NestedK
import PyProof.GenComp
import HandS.GenBody
import HandS.GenYield
import HandS.GenCall
import HandS.GenList
import HandS.Text
import HandS.Small
import KE.KDictPairs
import HandS.TryOnly
import PyProof.ReprRoads
import HandS.RaiseMore
import HandS.Lambda
set_option Elab.async false
set_option linter.all false
set_option maxRecDepth 100000
set_option maxHeartbeats 4000000
namespace KT
open PySem L2
def topS (i : Nat) : Stmt := PySem.Challenge.pw_anypads_k32_whole_zones_joined_and_compa.main.body.getD i (.Pass ⟨0, 0, 0, 0⟩)
abbrev s_NoScale_init : Stmt := inClass (topS 11) 0
abbrev s_is_whole : Stmt := topS 20
abbrev s_is_between : Stmt := topS 21
abbrev s_is_name : Stmt := topS 22
abbrev s_Part_init : Stmt := inClass (topS 43) 1
abbrev s_Part_eq : Stmt := inClass (topS 43) 11
abbrev s_Kind_init : Stmt := inClass (topS 44) 0
abbrev s_Kind_shape : Stmt := inClass (topS 44) 2
abbrev s_need_kinds : Stmt := topS 53
abbrev s_scales_of : Stmt := topS 55
abbrev s_own_bounds : Stmt := topS 60
abbrev s_tightened : Stmt := topS 61
abbrev s_closed : Stmt := topS 62
abbrev s_free_table : Stmt := topS 63
abbrev s_differences : Stmt := topS 64
abbrev s_is_point : Stmt := topS 65
abbrev s_Zone_init : Stmt := inClass (topS 66) 1
abbrev s_Zone_of : Stmt := inClass (topS 66) 2
abbrev s_Zone_need_names : Stmt := inClass (topS 66) 3
abbrev s_Zone_need_point : Stmt := inClass (topS 66) 4
abbrev s_Zone_need_like : Stmt := inClass (topS 66) 5
abbrev s_Zone_bounded : Stmt := inClass (topS 66) 6
abbrev s_Zone_within : Stmt := inClass (topS 66) 7
abbrev s_Zone_sides : Stmt := inClass (topS 66) 8
abbrev s_Zone_bool : Stmt := inClass (topS 66) 11
abbrev s_Zone_contains : Stmt := inClass (topS 66) 12
abbrev s_Zone_and : Stmt := inClass (topS 66) 14
abbrev s_Zone_le : Stmt := inClass (topS 66) 15
abbrev s_Zone_eq : Stmt := inClass (topS 66) 16
abbrev s_Zone_bounds : Stmt := inClass (topS 66) 20
abbrev s_L_pen : Stmt := topS 68
abbrev s_L_draw : Stmt := topS 69
abbrev s_L_pick : Stmt := topS 70
abbrev s_L_names : Stmt := topS 71
abbrev s_L_kinds : Stmt := topS 72
abbrev s_L_scales : Stmt := topS 73
abbrev s_L_own : Stmt := topS 74
abbrev s_L_point : Stmt := topS 75
abbrev s_L_bounds : Stmt := topS 76
abbrev s_L_zone : Stmt := topS 77
abbrev s_L_ways : Stmt := topS 78
abbrev s_L_reaching : Stmt := topS 79
abbrev s_L_heard : Stmt := topS 80
abbrev s_L_is_told : Stmt := topS 81
abbrev s_L_within : Stmt := topS 82
abbrev s_L_joined_right : Stmt := topS 83
abbrev s_L_compared_right : Stmt := topS 84
abbrev s_L_sides_right : Stmt := topS 85
abbrev s_L_points_right : Stmt := topS 86
abbrev s_L_joined : Stmt := topS 87
abbrev s_L_others_refused : Stmt := topS 88
abbrev s_law : Stmt := topS 89
-- NoScale.__init__: 0 self 1 scale
abbrev n_NoScale_init : List Str := ["self", "scale"]
abbrev p_NoScale_init : List Str := ["self", "scale"]
theorem sc_NoScale_init : FnScope n_NoScale_init p_NoScale_init (defScope s_NoScale_init) := ⟨rfl, rfl, rfl, by decide +kernel, rfl, by decide +kernel, by decide +kernel⟩
-- is_whole: 0 thing
abbrev n_is_whole : List Str := ["thing"]
abbrev p_is_whole : List Str := ["thing"]
theorem sc_is_whole : FnScope n_is_whole p_is_whole (defScope s_is_whole) := ⟨rfl, rfl, rfl, by decide +kernel, rfl, by decide +kernel, by decide +kernel⟩
-- is_between: 0 thing 1 least 2 most
abbrev n_is_between : List Str := ["thing", "least", "most"]
abbrev p_is_between : List Str := ["thing", "least", "most"]
theorem sc_is_between : FnScope n_is_between p_is_between (defScope s_is_between) := ⟨rfl, rfl, rfl, by decide +kernel, rfl, by decide +kernel, by decide +kernel⟩
-- is_name: 0 thing 1 sign
abbrev n_is_name : List Str := ["thing", "sign"]
abbrev p_is_name : List Str := ["thing"]
theorem sc_is_name : FnScope n_is_name p_is_name (defScope s_is_name) := ⟨rfl, rfl, rfl, by decide +kernel, rfl, by decide +kernel, by decide +kernel⟩
-- Part.__init__: 0 self 1 depth
abbrev n_Part_init : List Str := ["self", "depth"]
abbrev p_Part_init : List Str := ["self", "depth"]
theorem sc_Part_init : FnScope n_Part_init p_Part_init (defScope s_Part_init) := ⟨rfl, rfl, rfl, by decide +kernel, rfl, by decide +kernel, by decide +kernel⟩
-- Part.__eq__: 0 self 1 other
abbrev n_Part_eq : List Str := ["self", "other"]
abbrev p_Part_eq : List Str := ["self", "other"]
theorem sc_Part_eq : FnScope n_Part_eq p_Part_eq (defScope s_Part_eq) := ⟨rfl, rfl, rfl, by decide +kernel, rfl, by decide +kernel, by decide +kernel⟩
-- Kind.__init__: 0 self 1 name 2 times
abbrev n_Kind_init : List Str := ["self", "name", "times"]
abbrev p_Kind_init : List Str := ["self", "name", "times"]
-- Kind.shape: 0 self
abbrev n_Kind_shape : List Str := ["self"]
abbrev p_Kind_shape : List Str := ["self"]
theorem sc_Kind_shape : FnScope n_Kind_shape p_Kind_shape (defScope s_Kind_shape) := ⟨rfl, rfl, rfl, by decide +kernel, rfl, by decide +kernel, by decide +kernel⟩
-- need_kinds: 0 kinds 1 at 2 kind 3 names 4 name
abbrev n_need_kinds : List Str := ["kinds", "at", "kind", "names", "name"]
abbrev p_need_kinds : List Str := ["kinds"]
theorem sc_need_kinds : FnScope n_need_kinds p_need_kinds (defScope s_need_kinds) := ⟨rfl, rfl, rfl, by decide +kernel, rfl, by decide +kernel, by decide +kernel⟩
-- scales_of: 0 kinds 1 found 2 kind
abbrev n_scales_of : List Str := ["kinds", "found", "kind"]
abbrev p_scales_of : List Str := ["kinds"]
theorem sc_scales_of : FnScope n_scales_of p_scales_of (defScope s_scales_of) := ⟨rfl, rfl, rfl, by decide +kernel, rfl, by decide +kernel, by decide +kernel⟩
-- own_bounds: 0 kinds 1 found 2 scale 3 kind
abbrev n_own_bounds : List Str := ["kinds", "found", "scale", "kind"]
abbrev p_own_bounds : List Str := ["kinds"]
theorem sc_own_bounds : FnScope n_own_bounds p_own_bounds (defScope s_own_bounds) := ⟨rfl, rfl, rfl, by decide +kernel, rfl, by decide +kernel, by decide +kernel⟩
-- tightened: 0 table 1 names 2 bound 3 i 4 j 5 c 6 found 7 x 8 y 9 best 10 way
abbrev n_tightened : List Str := ["table", "names", "bound", "i", "j", "c", "found", "x", "y", "best", "way"]
abbrev p_tightened : List Str := ["table", "names", "bound"]
theorem sc_tightened : FnScope n_tightened p_tightened (defScope s_tightened) := ⟨rfl, rfl, rfl, by decide +kernel, rfl, by decide +kernel, by decide +kernel⟩
-- closed: 0 table 1 names 2 bounds 3 found 4 bound
abbrev n_closed : List Str := ["table", "names", "bounds", "found", "bound"]
abbrev p_closed : List Str := ["table", "names", "bounds"]
theorem sc_closed : FnScope n_closed p_closed (defScope s_closed) := ⟨rfl, rfl, rfl, by decide +kernel, rfl, by decide +kernel, by decide +kernel⟩
-- free_table: 0 names 1 name
abbrev n_free_table : List Str := ["names", "name"]
abbrev p_free_table : List Str := ["names"]
theorem sc_free_table : FnScope n_free_table p_free_table (defScope s_free_table) := ⟨rfl, rfl, rfl, by decide +kernel, rfl, by decide +kernel, by decide +kernel⟩
-- differences: 0 table 1 names 2 i 3 j
abbrev n_differences : List Str := ["table", "names", "i", "j"]
abbrev p_differences : List Str := ["table", "names"]
theorem sc_differences : FnScope n_differences p_differences (defScope s_differences) := ⟨rfl, rfl, rfl, by decide +kernel, rfl, by decide +kernel, by decide +kernel⟩
-- is_point: 0 thing 1 scales 2 scale
abbrev n_is_point : List Str := ["thing", "scales", "scale"]
abbrev p_is_point : List Str := ["thing", "scales"]
theorem sc_is_point : FnScope n_is_point p_is_point (defScope s_is_point) := ⟨rfl, rfl, rfl, by decide +kernel, rfl, by decide +kernel, by decide +kernel⟩
-- Zone.__init__: 0 self 1 kinds 2 told 3 table
abbrev n_Zone_init : List Str := ["self", "kinds", "told", "table"]
abbrev p_Zone_init : List Str := ["self", "kinds", "told", "table"]
theorem sc_Zone_init : FnScope n_Zone_init p_Zone_init (defScope s_Zone_init) := ⟨rfl, rfl, rfl, by decide +kernel, rfl, by decide +kernel, by decide +kernel⟩
-- Zone.of: 0 cls 1 kinds
abbrev n_Zone_of : List Str := ["cls", "kinds"]
abbrev p_Zone_of : List Str := ["cls", "kinds"]
theorem sc_Zone_of : FnScope n_Zone_of p_Zone_of (defScope s_Zone_of) := ⟨rfl, rfl, rfl, by decide +kernel, rfl, by decide +kernel, by decide +kernel⟩
-- Zone.need_names: 0 self 1 i 2 j 3 name
abbrev n_Zone_need_names : List Str := ["self", "i", "j", "name"]
abbrev p_Zone_need_names : List Str := ["self", "i", "j"]
theorem sc_Zone_need_names : FnScope n_Zone_need_names p_Zone_need_names (defScope s_Zone_need_names) := ⟨rfl, rfl, rfl, by decide +kernel, rfl, by decide +kernel, by decide +kernel⟩
-- Zone.need_point: 0 self
abbrev n_Zone_need_point : List Str := ["self"]
abbrev p_Zone_need_point : List Str := ["self"]
theorem sc_Zone_need_point : FnScope n_Zone_need_point p_Zone_need_point (defScope s_Zone_need_point) := ⟨rfl, rfl, rfl, by decide +kernel, rfl, by decide +kernel, by decide +kernel⟩
-- Zone.need_like: 0 self 1 other
abbrev n_Zone_need_like : List Str := ["self", "other"]
abbrev p_Zone_need_like : List Str := ["self", "other"]
theorem sc_Zone_need_like : FnScope n_Zone_need_like p_Zone_need_like (defScope s_Zone_need_like) := ⟨rfl, rfl, rfl, by decide +kernel, rfl, by decide +kernel, by decide +kernel⟩
-- Zone.bounded: 0 self 1 bounds 2 told 3 table
abbrev n_Zone_bounded : List Str := ["self", "bounds", "told", "table"]
abbrev p_Zone_bounded : List Str := ["self", "bounds"]
theorem sc_Zone_bounded : FnScope n_Zone_bounded p_Zone_bounded (defScope s_Zone_bounded) := ⟨rfl, rfl, rfl, by decide +kernel, rfl, by decide +kernel, by decide +kernel⟩
-- Zone.within: 0 self 1 i 2 j 3 c
abbrev n_Zone_within : List Str := ["self", "i", "j", "c"]
abbrev p_Zone_within : List Str := ["self", "i", "j", "c"]
theorem sc_Zone_within : FnScope n_Zone_within p_Zone_within (defScope s_Zone_within) := ⟨rfl, rfl, rfl, by decide +kernel, rfl, by decide +kernel, by decide +kernel⟩
-- Zone.sides: 0 self 1 i 2 j 3 c
abbrev n_Zone_sides : List Str := ["self", "i", "j", "c"]
abbrev p_Zone_sides : List Str := ["self", "i", "j", "c"]
theorem sc_Zone_sides : FnScope n_Zone_sides p_Zone_sides (defScope s_Zone_sides) := ⟨rfl, rfl, rfl, by decide +kernel, rfl, by decide +kernel, by decide +kernel⟩
-- Zone.__bool__: 0 self
abbrev n_Zone_bool : List Str := ["self"]
abbrev p_Zone_bool : List Str := ["self"]
theorem sc_Zone_bool : FnScope n_Zone_bool p_Zone_bool (defScope s_Zone_bool) := ⟨rfl, rfl, rfl, by decide +kernel, rfl, by decide +kernel, by decide +kernel⟩
-- Zone.__contains__: 0 self 1 x 2 point 3 numbers 4 i 5 j 6 c 7 scale
abbrev n_Zone_contains : List Str := ["self", "x", "point", "numbers", "i", "j", "c", "scale"]
abbrev p_Zone_contains : List Str := ["self", "x"]
theorem sc_Zone_contains : FnScope n_Zone_contains p_Zone_contains (defScope s_Zone_contains) := ⟨rfl, rfl, rfl, by decide +kernel, rfl, by decide +kernel, by decide +kernel⟩
-- Zone.__and__: 0 self 1 other
abbrev n_Zone_and : List Str := ["self", "other"]
abbrev p_Zone_and : List Str := ["self", "other"]
theorem sc_Zone_and : FnScope n_Zone_and p_Zone_and (defScope s_Zone_and) := ⟨rfl, rfl, rfl, by decide +kernel, rfl, by decide +kernel, by decide +kernel⟩
-- Zone.__le__: 0 self 1 other 2 pair
abbrev n_Zone_le : List Str := ["self", "other", "pair"]
abbrev p_Zone_le : List Str := ["self", "other"]
theorem sc_Zone_le : FnScope n_Zone_le p_Zone_le (defScope s_Zone_le) := ⟨rfl, rfl, rfl, by decide +kernel, rfl, by decide +kernel, by decide +kernel⟩
-- Zone.__eq__: 0 self 1 other
abbrev n_Zone_eq : List Str := ["self", "other"]
abbrev p_Zone_eq : List Str := ["self", "other"]
theorem sc_Zone_eq : FnScope n_Zone_eq p_Zone_eq (defScope s_Zone_eq) := ⟨rfl, rfl, rfl, by decide +kernel, rfl, by decide +kernel, by decide +kernel⟩
-- Zone.bounds: 0 self 1 bound
abbrev n_Zone_bounds : List Str := ["self", "bound"]
abbrev p_Zone_bounds : List Str := ["self"]
-- _law_pen: 0 _law_script
abbrev n_L_pen : List Str := ["_law_script"]
abbrev p_L_pen : List Str := ["_law_script"]
theorem sc_L_pen : FnScope n_L_pen p_L_pen (defScope s_L_pen) := ⟨rfl, rfl, rfl, by decide +kernel, rfl, by decide +kernel, by decide +kernel⟩
-- _law_draw: 0 _law_pen_here 1 _law_many 2 _law_digit 3 _law_at 4 _law_cell 5 _law_great 6 _law_mixed
abbrev n_L_draw : List Str := ["_law_pen_here", "_law_many", "_law_digit", "_law_at", "_law_cell", "_law_great", "_law_mixed"]
abbrev p_L_draw : List Str := ["_law_pen_here", "_law_many"]
theorem sc_L_draw : FnScope n_L_draw p_L_draw (defScope s_L_draw) := ⟨rfl, rfl, rfl, by decide +kernel, rfl, by decide +kernel, by decide +kernel⟩
-- _law_pick: 0 _law_pen_here 1 _law_some
abbrev n_L_pick : List Str := ["_law_pen_here", "_law_some"]
abbrev p_L_pick : List Str := ["_law_pen_here", "_law_some"]
theorem sc_L_pick : FnScope n_L_pick p_L_pick (defScope s_L_pick) := ⟨rfl, rfl, rfl, by decide +kernel, rfl, by decide +kernel, by decide +kernel⟩
-- _law_names: 0 _law_pen_here 1 _law_many 2 _law_letters 3 _law_base 4 _law_spot 5 _law_first 6 _law_barred 7 _law_found 8 _law_k 9 _law_word
abbrev n_L_names : List Str := ["_law_pen_here", "_law_many", "_law_letters", "_law_base", "_law_spot", "_law_first", "_law_barred", "_law_found", "_law_k", "_law_word"]
abbrev p_L_names : List Str := ["_law_pen_here", "_law_many"]
theorem sc_L_names : FnScope n_L_names p_L_names (defScope s_L_names) := ⟨rfl, rfl, rfl, by decide +kernel, rfl, by decide +kernel, by decide +kernel⟩
-- _law_kinds: 0 _law_pen_here 1 _law_many 2 _law_name
abbrev n_L_kinds : List Str := ["_law_pen_here", "_law_many", "_law_name"]
abbrev p_L_kinds : List Str := ["_law_pen_here", "_law_many"]
theorem sc_L_kinds : FnScope n_L_kinds p_L_kinds (defScope s_L_kinds) := ⟨rfl, rfl, rfl, by decide +kernel, rfl, by decide +kernel, by decide +kernel⟩
-- _law_scales: 0 _law_kinds_here 1 _law_found 2 _law_kind
abbrev n_L_scales : List Str := ["_law_kinds_here", "_law_found", "_law_kind"]
abbrev p_L_scales : List Str := ["_law_kinds_here"]
theorem sc_L_scales : FnScope n_L_scales p_L_scales (defScope s_L_scales) := ⟨rfl, rfl, rfl, by decide +kernel, rfl, by decide +kernel, by decide +kernel⟩
-- _law_own: 0 _law_kinds_here 1 _law_found 2 _law_scale 3 _law_kind
abbrev n_L_own : List Str := ["_law_kinds_here", "_law_found", "_law_scale", "_law_kind"]
abbrev p_L_own : List Str := ["_law_kinds_here"]
theorem sc_L_own : FnScope n_L_own p_L_own (defScope s_L_own) := ⟨rfl, rfl, rfl, by decide +kernel, rfl, by decide +kernel, by decide +kernel⟩
-- _law_point: 0 _law_pen_here 1 _law_kinds_here 2 _law_most 3 _law_found 4 _law_kind 5 _law_big
abbrev n_L_point : List Str := ["_law_pen_here", "_law_kinds_here", "_law_most", "_law_found", "_law_kind", "_law_big"]
abbrev p_L_point : List Str := ["_law_pen_here", "_law_kinds_here", "_law_most"]
theorem sc_L_point : FnScope n_L_point p_L_point (defScope s_L_point) := ⟨rfl, rfl, rfl, by decide +kernel, rfl, by decide +kernel, by decide +kernel⟩
-- _law_bounds: 0 _law_pen_here 1 _law_kinds_here 2 _law_most 3 _law_names_here 4 _law_point_here 5 _law_found 6 _law_is_free 7 _law_turn 8 _law_i 9 _law_j 10 _law_c
abbrev n_L_bounds : List Str := ["_law_pen_here", "_law_kinds_here", "_law_most", "_law_names_here", "_law_point_here", "_law_found", "_law_is_free", "_law_turn", "_law_i", "_law_j", "_law_c"]
abbrev p_L_bounds : List Str := ["_law_pen_here", "_law_kinds_here", "_law_most"]
theorem sc_L_bounds : FnScope n_L_bounds p_L_bounds (defScope s_L_bounds) := ⟨rfl, rfl, rfl, by decide +kernel, rfl, by decide +kernel, by decide +kernel⟩
-- _law_zone: 0 _law_kinds_here 1 _law_bounds_here 2 _law_zone_here 3 _law_i 4 _law_j 5 _law_c
abbrev n_L_zone : List Str := ["_law_kinds_here", "_law_bounds_here", "_law_zone_here", "_law_i", "_law_j", "_law_c"]
abbrev p_L_zone : List Str := ["_law_kinds_here", "_law_bounds_here"]
theorem sc_L_zone : FnScope n_L_zone p_L_zone (defScope s_L_zone) := ⟨rfl, rfl, rfl, by decide +kernel, rfl, by decide +kernel, by decide +kernel⟩
-- _law_ways: 0 _law_names_here 1 _law_bounds_here 2 _law_found 3 _law_i 4 _law_j 5 _law_c 6 _law_k 7 _law_way 8 _law_name
abbrev n_L_ways : List Str := ["_law_names_here", "_law_bounds_here", "_law_found", "_law_i", "_law_j", "_law_c", "_law_k", "_law_way", "_law_name"]
abbrev p_L_ways : List Str := ["_law_names_here", "_law_bounds_here"]
theorem sc_L_ways : FnScope n_L_ways p_L_ways (defScope s_L_ways) := ⟨rfl, rfl, rfl, by decide +kernel, rfl, by decide +kernel, by decide +kernel⟩
-- _law_reaching: 0 _law_scales_here 1 _law_ways_here 2 _law_j 3 _law_far 4 _law_base 5 _law_found 6 _law_scale 7 _law_least
abbrev n_L_reaching : List Str := ["_law_scales_here", "_law_ways_here", "_law_j", "_law_far", "_law_base", "_law_found", "_law_scale", "_law_least"]
abbrev p_L_reaching : List Str := ["_law_scales_here", "_law_ways_here", "_law_j", "_law_far"]
theorem sc_L_reaching : FnScope n_L_reaching p_L_reaching (defScope s_L_reaching) := ⟨rfl, rfl, rfl, by decide +kernel, rfl, by decide +kernel, by decide +kernel⟩
-- _law_heard: 0 _law_call 1 _law_caught 2 error 3 _law_found
abbrev n_L_heard : List Str := ["_law_call", "_law_caught", "error", "_law_found"]
abbrev p_L_heard : List Str := ["_law_call"]
theorem sc_L_heard : FnScope n_L_heard p_L_heard (defScope s_L_heard) := ⟨rfl, rfl, rfl, by decide +kernel, rfl, by decide +kernel, by decide +kernel⟩
-- _law_is_told: 0 _law_zone_here 1 _law_names_here 2 _law_ways_here 3 _law_due 4 _law_i 5 _law_j
abbrev n_L_is_told : List Str := ["_law_zone_here", "_law_names_here", "_law_ways_here", "_law_due", "_law_i", "_law_j"]
abbrev p_L_is_told : List Str := ["_law_zone_here", "_law_names_here", "_law_ways_here"]
theorem sc_L_is_told : FnScope n_L_is_told p_L_is_told (defScope s_L_is_told) := ⟨rfl, rfl, rfl, by decide +kernel, rfl, by decide +kernel, by decide +kernel⟩
-- _law_within: 0 _law_one 1 _law_other 2 _law_pair
abbrev n_L_within : List Str := ["_law_one", "_law_other", "_law_pair"]
abbrev p_L_within : List Str := ["_law_one", "_law_other"]
theorem sc_L_within : FnScope n_L_within p_L_within (defScope s_L_within) := ⟨rfl, rfl, rfl, by decide +kernel, rfl, by decide +kernel, by decide +kernel⟩
-- _law_joined_right: 0 _law_zones 1 _law_names_here 2 _law_own_here 3 _law_lines 4 _law_one 5 _law_two 6 _law_three 7 _law_both 8 _law_every 9 _law_held
abbrev n_L_joined_right : List Str := ["_law_zones", "_law_names_here", "_law_own_here", "_law_lines", "_law_one", "_law_two", "_law_three", "_law_both", "_law_every", "_law_held"]
abbrev p_L_joined_right : List Str := ["_law_zones", "_law_names_here", "_law_own_here", "_law_lines"]
theorem sc_L_joined_right : FnScope n_L_joined_right p_L_joined_right (defScope s_L_joined_right) := ⟨rfl, rfl, rfl, by decide +kernel, rfl, by decide +kernel, by decide +kernel⟩
-- _law_compared_right: 0 _law_one 1 _law_two 2 _law_ways_here 3 _law_others
abbrev n_L_compared_right : List Str := ["_law_one", "_law_two", "_law_ways_here", "_law_others"]
abbrev p_L_compared_right : List Str := ["_law_one", "_law_two", "_law_ways_here", "_law_others"]
theorem sc_L_compared_right : FnScope n_L_compared_right p_L_compared_right (defScope s_L_compared_right) := ⟨rfl, rfl, rfl, by decide +kernel, rfl, by decide +kernel, by decide +kernel⟩
-- _law_sides_right: 0 _law_pen_here 1 _law_zone_here 2 _law_names_here 3 _law_ways_here 4 _law_i 5 _law_j 6 _law_c 7 _law_inside 8 _law_outside 9 _law_name 10 _law_point_here 11 _law_numbers 12 _law_is_so
abbrev n_L_sides_right : List Str := ["_law_pen_here", "_law_zone_here", "_law_names_here", "_law_ways_here", "_law_i", "_law_j", "_law_c", "_law_inside", "_law_outside", "_law_name", "_law_point_here", "_law_numbers", "_law_is_so"]
abbrev p_L_sides_right : List Str := ["_law_pen_here", "_law_zone_here", "_law_names_here", "_law_ways_here"]
theorem sc_L_sides_right : FnScope n_L_sides_right p_L_sides_right (defScope s_L_sides_right) := ⟨rfl, rfl, rfl, by decide +kernel, rfl, by decide +kernel, by decide +kernel⟩
-- _law_points_right: 0 _law_zones 1 _law_names_here 2 _law_ways_here 3 _law_both 4 _law_k 5 _law_name 6 _law_point_here
abbrev n_L_points_right : List Str := ["_law_zones", "_law_names_here", "_law_ways_here", "_law_both", "_law_k", "_law_name", "_law_point_here"]
abbrev p_L_points_right : List Str := ["_law_zones", "_law_names_here", "_law_ways_here"]
theorem sc_L_points_right : FnScope n_L_points_right p_L_points_right (defScope s_L_points_right) := ⟨rfl, rfl, rfl, by decide +kernel, rfl, by decide +kernel, by decide +kernel⟩
-- _law_joined: 0 _law_zone_here 1 _law_other
abbrev n_L_joined : List Str := ["_law_zone_here", "_law_other"]
abbrev p_L_joined : List Str := ["_law_zone_here", "_law_other"]
theorem sc_L_joined : FnScope n_L_joined p_L_joined (defScope s_L_joined) := ⟨rfl, rfl, rfl, by decide +kernel, rfl, by decide +kernel, by decide +kernel⟩
-- _law_others_refused: 0 _law_kinds_here 1 _law_zone_here 2 _law_others 3 _law_other
abbrev n_L_others_refused : List Str := ["_law_kinds_here", "_law_zone_here", "_law_others", "_law_other"]
abbrev p_L_others_refused : List Str := ["_law_kinds_here", "_law_zone_here"]
theorem sc_L_others_refused : FnScope n_L_others_refused p_L_others_refused (defScope s_L_others_refused) := ⟨rfl, rfl, rfl, by decide +kernel, rfl, by decide +kernel, by decide +kernel⟩
-- law: 0 _law_script 1 _law_pen_here 2 _law_turn 3 _law_kinds_here 4 _law_names_here 5 _law_own_here 6 _law_most 7 _law_lines 8 _law_zones 9 _law_ways_here 10 _law_k 11 _law_some
abbrev n_law : List Str := ["_law_script", "_law_pen_here", "_law_turn", "_law_kinds_here", "_law_names_here", "_law_own_here", "_law_most", "_law_lines", "_law_zones", "_law_ways_here", "_law_k", "_law_some"]
abbrev p_law : List Str := ["_law_script"]
theorem sc_law : FnScope n_law p_law (defScope s_law) := ⟨rfl, rfl, rfl, by decide +kernel, rfl, by decide +kernel, by decide +kernel⟩
end KT
set_option Elab.async false
set_option linter.all false
set_option maxRecDepth 100000
set_option maxHeartbeats 0
namespace KH
open PySem PySem.Spec PyProof.Rows L2 KT
def loose1 : List PySem.Str := ["_wall", "PadError", "BadName", "BadTimes", "BadParts", "NoPath", "Taken", "Unresolved", "NoMachine", "TooLarge", "NoScale", "BadBound", "Barred", "BadText", "LETTERS_names", "FIGURES_names", "LONGEST", "BARRED", "is_whole", "is_between"]
def loose2 : List PySem.Str := ["is_name", "number_in", "steps_in", "LETTERS_cursors", "FIGURES_cursors", "LONGEST_NAME", "is_letter", "is_figure", "begins_one", "Cursor", "MOST_EXPONENT", "read_exponents", "exponents_in", "MOST_TIMES", "led_by", "need_pairs", "depth_over", "pair_texts", "Part", "Kind"]
def loose3 : List PySem.Str := ["Byte", "Group", "Spread", "Row", "Record", "Overlay", "MOST_KINDS", "need_kinds", "need_exponents", "scales_of", "rounded_up", "Machine", "BYTE", "own_bounds", "tightened", "closed", "free_table", "differences", "is_point", "Zone"]
def loose4 : List PySem.Str := ["_law_pen", "_law_draw", "_law_pick", "_law_names", "_law_kinds", "_law_scales", "_law_own", "_law_point", "_law_bounds", "_law_zone", "_law_ways", "_law_reaching", "_law_heard", "_law_is_told", "_law_within", "_law_joined_right", "_law_compared_right", "_law_sides_right", "_law_points_right", "_law_joined"]
def loose5 : List PySem.Str := ["_law_others_refused"]
def loose : List PySem.Str := loose1 ++ loose2 ++ loose3 ++ loose4 ++ loose5
def d_NoScale_init : He.DefD := ⟨("NoScale", some "__init__"), "__init__", "NoScale.__init__", defArgs s_NoScale_init, defBody s_NoScale_init, defScope s_NoScale_init, [], []⟩
def d_is_whole : He.DefD := ⟨("is_whole", none), "is_whole", "is_whole", defArgs s_is_whole, defBody s_is_whole, defScope s_is_whole, [], []⟩
def d_is_between : He.DefD := ⟨("is_between", none), "is_between", "is_between", defArgs s_is_between, defBody s_is_between, defScope s_is_between, [], []⟩
def d_is_name : He.DefD := ⟨("is_name", none), "is_name", "is_name", defArgs s_is_name, defBody s_is_name, defScope s_is_name, [], []⟩
def d_Part_init : He.DefD := ⟨("Part", some "__init__"), "__init__", "Part.__init__", defArgs s_Part_init, defBody s_Part_init, defScope s_Part_init, [], []⟩
def d_Part_eq : He.DefD := ⟨("Kind", some "__eq__"), "__eq__", "Part.__eq__", defArgs s_Part_eq, defBody s_Part_eq, defScope s_Part_eq, [], []⟩
def d_Kind_shape : He.DefD := ⟨("Kind", some "shape"), "shape", "Kind.shape", defArgs s_Kind_shape, defBody s_Kind_shape, defScope s_Kind_shape, [], []⟩
def d_need_kinds : He.DefD := ⟨("need_kinds", none), "need_kinds", "need_kinds", defArgs s_need_kinds, defBody s_need_kinds, defScope s_need_kinds, [], []⟩
def d_scales_of : He.DefD := ⟨("scales_of", none), "scales_of", "scales_of", defArgs s_scales_of, defBody s_scales_of, defScope s_scales_of, [], []⟩
def d_own_bounds : He.DefD := ⟨("own_bounds", none), "own_bounds", "own_bounds", defArgs s_own_bounds, defBody s_own_bounds, defScope s_own_bounds, [], []⟩
def d_tightened : He.DefD := ⟨("tightened", none), "tightened", "tightened", defArgs s_tightened, defBody s_tightened, defScope s_tightened, [], []⟩
def d_closed : He.DefD := ⟨("closed", none), "closed", "closed", defArgs s_closed, defBody s_closed, defScope s_closed, [], []⟩
def d_free_table : He.DefD := ⟨("free_table", none), "free_table", "free_table", defArgs s_free_table, defBody s_free_table, defScope s_free_table, [], []⟩
def d_differences : He.DefD := ⟨("differences", none), "differences", "differences", defArgs s_differences, defBody s_differences, defScope s_differences, [], []⟩
def d_is_point : He.DefD := ⟨("is_point", none), "is_point", "is_point", defArgs s_is_point, defBody s_is_point, defScope s_is_point, [], []⟩
def d_Zone_init : He.DefD := ⟨("Zone", some "__init__"), "__init__", "Zone.__init__", defArgs s_Zone_init, defBody s_Zone_init, defScope s_Zone_init, [], [("told", .non), ("table", .non)]⟩
def d_Zone_need_names : He.DefD := ⟨("Zone", some "need_names"), "need_names", "Zone.need_names", defArgs s_Zone_need_names, defBody s_Zone_need_names, defScope s_Zone_need_names, [], []⟩
def d_Zone_need_point : He.DefD := ⟨("Zone", some "need_point"), "need_point", "Zone.need_point", defArgs s_Zone_need_point, defBody s_Zone_need_point, defScope s_Zone_need_point, [], []⟩
def d_Zone_need_like : He.DefD := ⟨("Zone", some "need_like"), "need_like", "Zone.need_like", defArgs s_Zone_need_like, defBody s_Zone_need_like, defScope s_Zone_need_like, [], []⟩
def d_Zone_bounded : He.DefD := ⟨("Zone", some "bounded"), "bounded", "Zone.bounded", defArgs s_Zone_bounded, defBody s_Zone_bounded, defScope s_Zone_bounded, [], []⟩
def d_Zone_within : He.DefD := ⟨("Zone", some "within"), "within", "Zone.within", defArgs s_Zone_within, defBody s_Zone_within, defScope s_Zone_within, [], []⟩
def d_Zone_sides : He.DefD := ⟨("Zone", some "sides"), "sides", "Zone.sides", defArgs s_Zone_sides, defBody s_Zone_sides, defScope s_Zone_sides, [], []⟩
def d_Zone_bool : He.DefD := ⟨("Zone", some "__bool__"), "__bool__", "Zone.__bool__", defArgs s_Zone_bool, defBody s_Zone_bool, defScope s_Zone_bool, [], []⟩
def d_Zone_contains : He.DefD := ⟨("Zone", some "__contains__"), "__contains__", "Zone.__contains__", defArgs s_Zone_contains, defBody s_Zone_contains, defScope s_Zone_contains, [], []⟩
def d_Zone_and : He.DefD := ⟨("Zone", some "__and__"), "__and__", "Zone.__and__", defArgs s_Zone_and, defBody s_Zone_and, defScope s_Zone_and, [], []⟩
def d_Zone_le : He.DefD := ⟨("Zone", some "__le__"), "__le__", "Zone.__le__", defArgs s_Zone_le, defBody s_Zone_le, defScope s_Zone_le, [], []⟩
def d_Zone_eq : He.DefD := ⟨("Zone", some "__eq__"), "__eq__", "Zone.__eq__", defArgs s_Zone_eq, defBody s_Zone_eq, defScope s_Zone_eq, [], []⟩
def d_Zone_bounds : He.DefD := ⟨("Zone", some "bounds"), "bounds", "Zone.bounds", defArgs s_Zone_bounds, defBody s_Zone_bounds, defScope s_Zone_bounds, [], []⟩
def d_L_pen : He.DefD := ⟨("_law_pen", none), "_law_pen", "_law_pen", defArgs s_L_pen, defBody s_L_pen, defScope s_L_pen, [], []⟩
def d_L_draw : He.DefD := ⟨("_law_draw", none), "_law_draw", "_law_draw", defArgs s_L_draw, defBody s_L_draw, defScope s_L_draw, [], []⟩
def d_L_pick : He.DefD := ⟨("_law_pick", none), "_law_pick", "_law_pick", defArgs s_L_pick, defBody s_L_pick, defScope s_L_pick, [], []⟩
def d_L_names : He.DefD := ⟨("_law_names", none), "_law_names", "_law_names", defArgs s_L_names, defBody s_L_names, defScope s_L_names, [], []⟩
def d_L_kinds : He.DefD := ⟨("_law_kinds", none), "_law_kinds", "_law_kinds", defArgs s_L_kinds, defBody s_L_kinds, defScope s_L_kinds, [], []⟩
def d_L_scales : He.DefD := ⟨("_law_scales", none), "_law_scales", "_law_scales", defArgs s_L_scales, defBody s_L_scales, defScope s_L_scales, [], []⟩
def d_L_own : He.DefD := ⟨("_law_own", none), "_law_own", "_law_own", defArgs s_L_own, defBody s_L_own, defScope s_L_own, [], []⟩
def d_L_point : He.DefD := ⟨("_law_point", none), "_law_point", "_law_point", defArgs s_L_point, defBody s_L_point, defScope s_L_point, [], []⟩
def d_L_bounds : He.DefD := ⟨("_law_bounds", none), "_law_bounds", "_law_bounds", defArgs s_L_bounds, defBody s_L_bounds, defScope s_L_bounds, [], []⟩
def d_L_zone : He.DefD := ⟨("_law_zone", none), "_law_zone", "_law_zone", defArgs s_L_zone, defBody s_L_zone, defScope s_L_zone, [], []⟩
def d_L_ways : He.DefD := ⟨("_law_ways", none), "_law_ways", "_law_ways", defArgs s_L_ways, defBody s_L_ways, defScope s_L_ways, [], []⟩
def d_L_reaching : He.DefD := ⟨("_law_reaching", none), "_law_reaching", "_law_reaching", defArgs s_L_reaching, defBody s_L_reaching, defScope s_L_reaching, [], []⟩
def d_L_heard : He.DefD := ⟨("_law_heard", none), "_law_heard", "_law_heard", defArgs s_L_heard, defBody s_L_heard, defScope s_L_heard, [], []⟩
def d_L_is_told : He.DefD := ⟨("_law_is_told", none), "_law_is_told", "_law_is_told", defArgs s_L_is_told, defBody s_L_is_told, defScope s_L_is_told, [], []⟩
def d_L_within : He.DefD := ⟨("_law_within", none), "_law_within", "_law_within", defArgs s_L_within, defBody s_L_within, defScope s_L_within, [], []⟩
def d_L_joined_right : He.DefD := ⟨("_law_joined_right", none), "_law_joined_right", "_law_joined_right", defArgs s_L_joined_right, defBody s_L_joined_right, defScope s_L_joined_right, [], []⟩
def d_L_compared_right : He.DefD := ⟨("_law_compared_right", none), "_law_compared_right", "_law_compared_right", defArgs s_L_compared_right, defBody s_L_compared_right, defScope s_L_compared_right, [], []⟩
def d_L_sides_right : He.DefD := ⟨("_law_sides_right", none), "_law_sides_right", "_law_sides_right", defArgs s_L_sides_right, defBody s_L_sides_right, defScope s_L_sides_right, [], []⟩
def d_L_points_right : He.DefD := ⟨("_law_points_right", none), "_law_points_right", "_law_points_right", defArgs s_L_points_right, defBody s_L_points_right, defScope s_L_points_right, [], []⟩
def d_L_joined : He.DefD := ⟨("_law_joined", none), "_law_joined", "_law_joined", defArgs s_L_joined, defBody s_L_joined, defScope s_L_joined, [], []⟩
def d_L_others_refused : He.DefD := ⟨("_law_others_refused", none), "_law_others_refused", "_law_others_refused", defArgs s_L_others_refused, defBody s_L_others_refused, defScope s_L_others_refused, [], []⟩
def d_law : He.DefD := ⟨("law", none), "law", "law", defArgs s_law, defBody s_law, defScope s_law, [], []⟩
def fn : List He.DefD := [d_NoScale_init, d_is_whole, d_is_between, d_is_name, d_Part_init, d_Part_eq, d_Kind_shape, d_need_kinds, d_scales_of, d_own_bounds, d_tightened, d_closed, d_free_table, d_differences, d_is_point, d_Zone_init, d_Zone_need_names, d_Zone_need_point, d_Zone_need_like, d_Zone_bounded, d_Zone_within, d_Zone_sides, d_Zone_bool, d_Zone_contains, d_Zone_and, d_Zone_le, d_Zone_eq, d_Zone_bounds, d_L_pen, d_L_draw, d_L_pick, d_L_names, d_L_kinds, d_L_scales, d_L_own, d_L_point, d_L_bounds, d_L_zone, d_L_ways, d_L_reaching, d_L_heard, d_L_is_told, d_L_within, d_L_joined_right, d_L_compared_right, d_L_sides_right, d_L_points_right, d_L_joined, d_L_others_refused, d_law]
def gl1 : List PySem.Str := ["law", "Part", "Kind", "Zone", "Machine", "NoScale", "PadError", "BadParts", "Taken", "BadBound", "Barred", "BARRED", "is_whole", "is_between", "is_name", "need_kinds", "scales_of", "own_bounds", "tightened", "closed", "free_table", "differences", "is_point"]
def gl2 : List PySem.Str := ["_law_pen", "_law_draw", "_law_pick", "_law_names", "_law_kinds", "_law_scales", "_law_own", "_law_point", "_law_bounds", "_law_zone", "_law_ways", "_law_reaching", "_law_heard", "_law_is_told", "_law_within", "_law_joined_right", "_law_compared_right", "_law_sides_right", "_law_points_right", "_law_joined", "_law_others_refused"]
def needG : List PySem.Str := gl1 ++ gl2
def frees : List PySem.Str := ["len", "isinstance", "all", "abs", "repr", "range", "enumerate", "tuple", "list", "dict", "int", "str", "bool", "super"]
def zoneM : List PySem.Str := ["need_names", "need_point", "need_like", "bounded", "within", "sides", "__bool__", "__contains__", "__and__", "__le__", "__eq__", "bounds"]
def needM : List (PySem.Str × List PySem.Str) := [("Zone", "of" :: "__init__" :: zoneM), ("NoScale", ["__init__"]), ("Part", ["__init__", "__eq__"]), ("Kind", ["__init__", "shape"])]
def fa : List He.Fa := needG.map He.Fa.glo ++ (frees.map He.Fa.free ++ ([.int "MOST_TIMES" 8, .int "MOST_KINDS" 3, .int "LONGEST" 8, .str "BYTE" "byte", .str "LETTERS_names" "abcdefghijklmnopqrstuvwxyz"] ++ ((["depth", "name", "times"] : List PySem.Str).map (He.Fa.noat "Kind") ++ ((["kinds", "scales", "all_names", "told", "table"] : List PySem.Str).map (He.Fa.noat "Zone") ++
  ([.noat "NoScale" "scale", .mkr "Kind", .mkr "Zone", .meth "Kind" "__eq__", .meth "Kind" "shape", .cls "Kind", .cls "Zone"] ++ zoneM.map (He.Fa.meth "Zone"))))))
def eqB (a b : Option Bool) : Bool := match a, b with
  | some true, some true => true
  | some false, some false => true
  | _, _ => false
/-- further facts of a class whose instances have a dict -/
def klB (K : PySem.W.Frag) (C : Addr) : Bool := He.eqO (PySem.W.findIn K (.ref C) "__class__") (some (some (.builtin "object.__class__"))) && eqB (PySem.W.mroIn K C (.type "object")) (some true)
def kitB (K : PySem.W.Frag) (t : Value) (C : Addr) (b : Bool) : Bool := eqB (PySem.W.kitOne K t (.ref C)) (some b)
def zoB (K : PySem.W.Frag) (Z : Addr) : Bool := PySem.W.selfFirst K Z && (He.eqO (PySem.W.findIn K (.ref Z) "__ne__") (some (some (.builtin "object.__ne__"))) && (PySem.W.notFirst K Z (.ref Z) && (PySem.W.notFirst K Z (.type "NoneType") && (PySem.W.notFirst K Z (.type "str") && (PySem.W.notFirst K Z (.type "tuple") &&
  (match PySem.W.clsIn K Z with
    | some cd => cd.mro.all fun v => decide (PySem.W.findIn K v "__iand__" = some none)
    | none => false))))))
/-- an own exception's class -/
def oexB (K : PySem.W.Frag) (C : Addr) : Bool := (match K.lookup C with
  | some ⟨.type "type", _, .cls cd, sl⟩ => (match cd.mro, sl.toList with
    | .ref C' :: bm, [_, _, _, _, some (.builtin n), _] => decide (C' = C) && (decide (n = "ValueError.__new__") && (!cd.hasDel && (cd.hasDict && PySem.HandSPX.refsVE bm)))
    | _, _ => false)
  | _ => false) && (He.eqO (PySem.W.findIn K (.ref C) "__setattr__") (some (some (.builtin "object.__setattr__"))) && (eqB (PySem.W.subIn K (.ref C) (.type "BaseException")) (some true) && (decide (PySem.W.typeIn K (.ref C) = some (.type "type")) && PySem.W.keepIn K (.ref C))))
def excB (K : PySem.W.Frag) (C : Addr) : Bool := L2.xfB K C && (He.eqO (PySem.W.findIn K (.ref C) "__class__") (some (some (.builtin "object.__class__"))) && eqB (PySem.W.mroIn K C (.type "object")) (some true))
def exmB (K : PySem.W.Frag) (C : Addr) (x : PySem.Str) (b : Bool) : Bool := eqB (PySem.W.exmOne K (.ref C) (.ref (He.ga K x))) (some b)
def creadB (K : PySem.W.Frag) (C : Addr) : Bool := PySem.W.readsIn K C (.type "type") && He.eqO (PySem.W.specialIn K (.ref C) "__getattribute__") (some (some (.builtin "type.__getattribute__")))
def cvalB (K : PySem.W.Frag) (C : Addr) (f : PySem.Str) (v : V) : Bool := match PySem.W.findCls K (.ref C) (.type "type") f with
  | some (.val u) => He.relB v u
  | _ => false
def ofP (K : PySem.W.Frag) : Addr := He.ma K (He.ga K "Zone") "of"
def ofG (K : PySem.W.Frag) : Addr := match PySem.W.recIn K (ofP K) "classmethod" with
  | some (.ref g :: _) => g
  | _ => 0
def cmetB (K : PySem.W.Frag) (C : Addr) : Bool := (match PySem.W.findCls K (.ref C) (.type "type") "of" with
  | some (.get g p .none c) => decide (g = .builtin "classmethod.__get__") && (decide (p = .ref (ofP K)) && decide (c = .ref C))
  | _ => false) && ((match PySem.W.recIn K (ofP K) "classmethod" with
  | some (.ref _ :: _) => true
  | _ => false) && PySem.W.fnIn K (ofG K))
def bmB (K : PySem.W.Frag) (g : Addr) : Bool := He.eqO (PySem.W.specialIn K (.ref g) "__get__") (some (some (.builtin "function.__get__"))) && (eqB (PySem.W.takesIn K (.ref g)) (some false) && PySem.W.fnIn K g)
def kiA (K : PySem.W.Frag) : Addr := He.ma K (He.ga K "Kind") "__init__"
def piA (K : PySem.W.Frag) : Addr := He.ma K (He.ga K "Part") "__init__"
/-- Kind.__init__: its cell, its code object, its defaults -/
def kiB (K : PySem.W.Frag) (file : PySem.Str) : Bool := match K.lookup (kiA K) with
  | some ⟨_, _, .func fd, _⟩ => (match fd.closure, fd.code, fd.defaults with
    | [(_, cc)], .ref c, .ref T => (match K.lookup cc with
        | some ⟨_, _, .cell (some (.ref D)), _⟩ => decide (D = He.ga K "Kind")
        | _ => false) && ((match K.lookup c with
        | some ⟨_, _, .fields vs, _⟩ => (match (vs[2]? : Option Value) with
          | some (.str y _) => decide (y = file)
          | _ => false)
        | _ => false) && (PySem.W.codeIn K (.ref c) "Kind.__init__" && (match K.lookup T with
        | some ⟨_, _, .seq its _, _⟩ => decide (its.size = 1)
        | _ => false)))
    | _, _, _ => false)
  | _ => false
def supB (K : PySem.W.Frag) : Bool := He.eqO (PySem.W.nsIn K cStatics "thirdparty.any") (some none) && (eqB (PySem.W.mroIn K (He.ga K "Kind") (.ref (He.ga K "Kind"))) (some true) && (He.eqO (PySem.W.ks_superIn K (He.ga K "Kind") (He.ga K "Kind") "__init__") (some (some (.ref (piA K)))) &&
  (decide (PySem.W.typeIn K (.ref (piA K)) = some (.type "function")) && PySem.W.fnIn K (piA K))))
def ofB (K : PySem.W.Frag) : Bool := PySem.W.keepIn K (.ref (ofG K)) && (match K.lookup (ofG K) with
  | some ⟨_, _, .func fd, _⟩ => PySem.W.codeIn K fd.code "Zone.of" && He.dflB K fd.defaults []
  | _ => false)
def barD : List He.Dv := (["byte", "size", "align", "place", "end", "packed", "and", "or", "not", "yes", "no", "for", "nogap", "notail", "leaf"] : List PySem.Str).map He.Dv.str
def nsB (K : PySem.W.Frag) : Bool := He.eqO (PySem.W.findIn K (.ref (He.ga K "NoScale")) "__init__") (some (some (.ref (He.ma K (He.ga K "NoScale") "__init__")))) && decide (PySem.W.typeIn K (.ref (He.ma K (He.ga K "NoScale") "__init__")) = some (.type "function"))
def exs (K : PySem.W.Frag) : List Bool := [klB K (He.ga K "Kind"), klB K (He.ga K "Zone"), kitB K (.ref (He.ga K "Kind")) (He.ga K "Part") true, kitB K (.ref (He.ga K "Kind")) (He.ga K "Kind") true, He.conB K "Zone" "MOST" (.int 2000),
  kitB K (.ref (He.ga K "Zone")) (He.ga K "Zone") true, kitB K (.type "dict") (He.ga K "Machine") false, kitB K (.type "NoneType") (He.ga K "Zone") false, kitB K (.type "str") (He.ga K "Zone") false, kitB K (.type "tuple") (He.ga K "Zone") false, zoB K (He.ga K "Zone"),
  oexB K (He.ga K "NoScale"), excB K (He.ga K "NoScale"), exmB K (He.ga K "NoScale") "PadError" true, kitB K (.ref (He.ga K "NoScale")) (He.ga K "BadParts") false, kitB K (.ref (He.ga K "NoScale")) (He.ga K "Taken") false, kitB K (.ref (He.ga K "NoScale")) (He.ga K "NoScale") true,
  kitB K (.ref (He.ga K "NoScale")) (He.ga K "BadBound") false, kitB K (.ref (He.ga K "NoScale")) (He.ga K "Barred") false, creadB K (He.ga K "Part"), cvalB K (He.ga K "Part") "DEPTH" (.int 4), creadB K (He.ga K "Zone"), cmetB K (He.ga K "Zone"), bmB K (He.ma K (He.ga K "Zone") "bounded"),
  kiB K PySem.Challenge.pw_anypads_k32_whole_zones_joined_and_compa.main.file, supB K, ofB K, He.tupB K "BARRED" barD, nsB K]
def ex (K : PySem.W.Frag) : Bool := (exs K).all id
/-- a function at an address, its closure by names -/
abbrev FnC : Type := Option (PySem.Str × PySem.Str × Arguments × FuncBody × Scope × Addr × List PySem.Str × Addr)
def fnC (K : PySem.W.Frag) (a : Addr) : FnC := match K.lookup a with
  | some ⟨_, _, .func fd, _⟩ => some (fd.name, fd.qualname, fd.params, fd.body, fd.scope, fd.globals, fd.closure.map (·.1), fd.builtins)
  | _ => none
def kiV : FnC := some ("__init__", "Kind.__init__", defArgs s_Kind_init, .stmts (defBody s_Kind_init), defScope s_Kind_init, mainGlobals, ["__class__"], builtinsNs)
def ofV : FnC := some ("of", "Zone.of", defArgs s_Zone_of, .stmts (defBody s_Zone_of), defScope s_Zone_of, mainGlobals, [], builtinsNs)
def tf : List He.Defn := [("_law_others_refused", none)]
def gAt (g : Addr → Option Obj) (x : PySem.Str) : Option Addr := match PySem.W.nsIn (He.frG g [mainGlobals]) mainGlobals x with
  | some (some (.ref a)) => some a
  | _ => none
def refsAt (g : Addr → Option Obj) (as : List Addr) : List Addr := as.flatMap fun a => match g a with
  | some o => He.refsD o
  | none => []
def mAt (g : Addr → Option Obj) (c : PySem.Str) (ms : List PySem.Str) : List Addr := match gAt g c with
  | some a => (match g a with
    | some ⟨_, _, .cls cd, _⟩ => ms.filterMap fun m => match PySem.W.nsIn (He.frG g [cd.ns]) cd.ns m with
      | some (some (.ref b)) => some b
      | _ => none
    | _ => [])
  | none => []
def asX (g : Addr → Option Obj) : List Addr := mainGlobals :: cStatics :: (needG.filterMap (gAt g) ++ refsAt g (needG.filterMap (gAt g)) ++ (needM.flatMap fun p => mAt g p.1 p.2) ++ refsAt g (needM.flatMap fun p => mAt g p.1 p.2) ++ refsAt g (refsAt g (mAt g "Zone" ["of"])))
def kX (g : Addr → Option Obj) : PySem.W.Frag := He.frT g (asX g)
abbrev AlK : Type := He.AlD × FnC × FnC × Bool
def obK (g : Addr → Option Obj) (K : PySem.W.Frag) : AlK := (He.obsD fa fn K, fnC K (kiA K), fnC K (ofG K), ex K && He.tabsB g tf K)
def vaK : AlK := (He.valD fn, kiV, ofV, true)
end KH
set_option Elab.async false
set_option linter.all false
set_option maxRecDepth 100000
set_option maxHeartbeats 0
namespace KH
open PySem PySem.Spec PyProof.Rows L2 KT
abbrev R : PySem.W.OpenRow := PySem.W.OpenLaw.row PySem.Challenge.rw_anypads_k32_whole_zones_joined_and_compa
/-- what is told of the head's heap -/
structure SaysK (h : Heap) (K : PySem.W.Frag) : Prop where
  d : He.SaysD fa fn K
  ki : fnC K (kiA K) = kiV
  of_ : fnC K (ofG K) = ofV
  more : ex K = true
  hd : PySem.W.codeHdIn K (He.cT K ("_law_others_refused", none)).1 (He.cT K ("_law_others_refused", none)).2 = true
  out : K.lookup (He.cT K ("_law_others_refused", none)).2 = none
  empty : h.get? (He.cT K ("_law_others_refused", none)).2 = some { cls := .none, data := .fields #[] }
theorem saysK_of {h : Heap} (e : obK h.get? (kX h.get?) = vaK) : SaysK h (kX h.get?) := by
  have e1 : He.obsD fa fn (kX h.get?) = He.valD fn := congrArg (fun z : AlK => z.1) e
  have e2 : fnC (kX h.get?) (kiA (kX h.get?)) = kiV := congrArg (fun z : AlK => z.2.1) e
  have e3 : fnC (kX h.get?) (ofG (kX h.get?)) = ofV := congrArg (fun z : AlK => z.2.2.1) e
  have e4 : (ex (kX h.get?) && He.tabsB h.get? tf (kX h.get?)) = true := congrArg (fun z : AlK => z.2.2.2) e
  obtain ⟨h1, h2⟩ := He.ba e4
  obtain ⟨h3, h4⟩ := He.ba (List.all_eq_true.mp h2 ("_law_others_refused", none) (List.mem_cons_self ..))
  obtain ⟨o, q, z⟩ : ∃ o, h.get? (He.cT (kX h.get?) ("_law_others_refused", none)).2 = some o ∧ He.emptyTab o = true := by
    cases q : h.get? (He.cT (kX h.get?) ("_law_others_refused", none)).2 with
    | none => rw [q] at h4; cases h4
    | some o => rw [q] at h4; exact ⟨o, rfl, h4⟩
  exact ⟨e1, e2, e3, h1, h3, He.frT_none q z, by rw [q, He.emptyTab_eq z]⟩
abbrev hk : PySem.W.Hook where
  α := AlK
  obs := fun s => obK s.heap.get? (kX s.heap.get?)
  val := fun _ => vaK
  says := fun _ h => ∃ K : PySem.W.Frag, K.In h ∧ SaysK h K
  of := fun _ _ e => ⟨_, He.frT_in, saysK_of e⟩
  keeps := fun _ _ _ ⟨K, hK, c⟩ k => ⟨K, PySem.W.Frag.In.keeps hK k, c.d, c.ki, c.of_, c.more, c.hd, c.out, k _ _ c.empty⟩
def ob (s : PySem.W.SharedT) : AlK := obK (HandSHeadRun.getT s) (kX (HandSHeadRun.getT s))
theorem ob_eq (s : PySem.W.SharedT) : ob s = hk.obs s.abs := by
  have e : HandSHeadRun.getT s = s.abs.heap.get? := funext (HandSHeadRun.getT_eq s)
  unfold ob
  rw [e]
abbrev qv : Program := PySem.W.view R.prog [89]
theorem run (w : World) : HandSHeadRun.RunEq R qv hk ob 20000 loose w := by
  intro os
  kernel_rfl
end KH
set_option linter.all false
set_option maxHeartbeats 4000000
namespace KM
section
variable {α : Type} [DecidableEq α]

abbrev Tb (α : Type) := α → α → Option Int
abbrev Bd (α : Type) := α × α × Int

/-- a way along bounds, its sum -/
inductive Way (B : List (Bd α)) : α → α → Int → Prop
  | nil (x : α) : Way B x x 0
  | cons {x y z : α} {c w : Int} : (x, y, c) ∈ B → Way B y z w → Way B x z (c + w)

theorem Way.trans {B : List (Bd α)} {x y z : α} {v w : Int} (p : Way B x y v) (q : Way B y z w) : Way B x z (v + w) := by
  induction p with
  | nil x => simpa using q
  | cons h _ ih => rw [Int.add_assoc]; exact .cons h (ih q)
theorem Way.one {B : List (Bd α)} {x y : α} {c : Int} (h : (x, y, c) ∈ B) : Way B x y c := by
  have := Way.cons h (Way.nil (B := B) y)
  simpa using this
theorem Way.mono {B B' : List (Bd α)} (s : ∀ e, e ∈ B → e ∈ B') {x y : α} {w : Int} (p : Way B x y w) : Way B' x y w := by
  induction p with
  | nil x => exact .nil x
  | cons h _ ih => exact .cons (s _ h) ih

/-- the table of all differences of the points that keep the bounds B (there is one) -/
structure Cl (N : List α) (B : List (Bd α)) (T : Tb α) : Prop where
  refl : ∀ x, x ∈ N → T x x = some 0
  dom : ∀ x y w, T x y = some w → x ∈ N ∧ y ∈ N
  tri : ∀ x y z a b, T x y = some a → T y z = some b → ∃ c, T x z = some c ∧ c ≤ a + b
  edge : ∀ x y c, (x, y, c) ∈ B → ∃ t, T x y = some t ∧ t ≤ c
  way : ∀ x y w, T x y = some w → Way B x y w

/-- some way round is below 0 -/
def Neg (B : List (Bd α)) : Prop := ∃ x w, Way B x x w ∧ w < 0
/-- a table or none -/
def Clo (N : List α) (B : List (Bd α)) : Option (Tb α) → Prop
  | none => Neg B
  | some T => Cl N B T
def In (N : List α) (B : List (Bd α)) : Prop := ∀ e, e ∈ B → e.1 ∈ N ∧ e.2.1 ∈ N

theorem Cl.le {N : List α} {B : List (Bd α)} {T : Tb α} (h : Cl N B T) {x y : α} {w : Int} (p : Way B x y w) (hx : x ∈ N) : ∃ t, T x y = some t ∧ t ≤ w := by
  induction p with
  | nil x => exact ⟨0, h.refl x hx, Int.le_refl _⟩
  | cons e _ ih =>
    obtain ⟨t, e1, l1⟩ := h.edge _ _ _ e
    obtain ⟨u, e2, l2⟩ := ih (h.dom _ _ _ e1).2
    obtain ⟨c, e3, l3⟩ := h.tri _ _ _ _ _ e1 e2
    exact ⟨c, e3, by omega⟩
theorem Cl.noneg {N : List α} {B : List (Bd α)} {T : Tb α} (h : Cl N B T) : ¬ Neg B := by
  rintro ⟨x, w, p, l⟩
  cases p with
  | nil => omega
  | cons e q =>
    obtain ⟨t, e1, _⟩ := h.edge _ _ _ e
    have hx := (h.dom _ _ _ e1).1
    obtain ⟨u, e2, l2⟩ := h.le (Way.cons e q) hx
    rw [h.refl _ hx] at e2
    cases e2
    omega
theorem Cl.sub {N : List α} {B B' : List (Bd α)} {T T' : Tb α} (h : Cl N B T) (h' : Cl N B' T') (s : ∀ e, e ∈ B → e ∈ B') {x y : α} {w : Int} (e : T x y = some w) : ∃ t, T' x y = some t ∧ t ≤ w :=
  h'.le ((h.way _ _ _ e).mono s) (h.dom _ _ _ e).1
theorem Cl.uniq {N : List α} {B B' : List (Bd α)} {T T' : Tb α} (h : Cl N B T) (h' : Cl N B' T') (s : ∀ e, e ∈ B ↔ e ∈ B') : T = T' := by
  funext x y
  cases e : T x y with
  | none =>
    cases e' : T' x y with
    | none => rfl
    | some w =>
      obtain ⟨t, q, _⟩ := h'.sub h (fun b hb => (s b).mpr hb) e'
      rw [e] at q; cases q
  | some w =>
    obtain ⟨t, q, l⟩ := h.sub h' (fun b hb => (s b).mp hb) e
    obtain ⟨u, q', l'⟩ := h'.sub h (fun b hb => (s b).mpr hb) q
    rw [e] at q'; cases q'
    rw [q]
    have : t = w := by omega
    rw [this]
theorem Neg.mono {B B' : List (Bd α)} (s : ∀ e, e ∈ B → e ∈ B') (h : Neg B) : Neg B' := by
  obtain ⟨x, w, p, l⟩ := h
  exact ⟨x, w, p.mono s, l⟩
theorem Clo.uniq {N : List α} {B B' : List (Bd α)} {T T' : Option (Tb α)} (h : Clo N B T) (h' : Clo N B' T') (s : ∀ e, e ∈ B ↔ e ∈ B') : T = T' := by
  cases T with
  | none =>
    cases T' with
    | none => rfl
    | some T' => exact absurd (Neg.mono (fun e he => (s e).mp he) h) (Cl.noneg h')
  | some T =>
    cases T' with
    | none => exact absurd (Neg.mono (fun e he => (s e).mpr he) h') (Cl.noneg h)
    | some T' => rw [Cl.uniq h h' s]
theorem Clo.congr {N : List α} {B B' : List (Bd α)} {T : Option (Tb α)} (h : Clo N B T) (s : ∀ e, e ∈ B ↔ e ∈ B') : Clo N B' T := by
  cases T with
  | none => exact Neg.mono (fun e he => (s e).mp he) h
  | some T =>
    have h : Cl N B T := h
    exact ⟨h.refl, h.dom, h.tri, fun x y c e => h.edge x y c ((s _).mpr e), fun x y w e => (h.way x y w e).mono fun e he => (s e).mp he⟩

def wayT (T : Tb α) (i j : α) (c : Int) (x y : α) : Option Int :=
  match T x i, T j y with
  | some a, some b => some (a + c + b)
  | _, _ => none
def bestT (T : Tb α) (i j : α) (c : Int) (x y : α) : Option Int :=
  match wayT T i j c x y, T x y with
  | some v, some w => some (if v < w then v else w)
  | some v, none => some v
  | none, r => r
def tight (N : List α) (T : Option (Tb α)) (b : Bd α) : Option (Tb α) :=
  match T with
  | none => none
  | some T =>
    match T b.2.1 b.1 with
    | some t => if t + b.2.2 < 0 then none else
        match T b.1 b.2.1 with
        | some u => if u ≤ b.2.2 then some T else some fun x y => if x ∈ N ∧ y ∈ N then bestT T b.1 b.2.1 b.2.2 x y else none
        | none => some fun x y => if x ∈ N ∧ y ∈ N then bestT T b.1 b.2.1 b.2.2 x y else none
    | none =>
        match T b.1 b.2.1 with
        | some u => if u ≤ b.2.2 then some T else some fun x y => if x ∈ N ∧ y ∈ N then bestT T b.1 b.2.1 b.2.2 x y else none
        | none => some fun x y => if x ∈ N ∧ y ∈ N then bestT T b.1 b.2.1 b.2.2 x y else none
def tights (N : List α) (T : Option (Tb α)) (bs : List (Bd α)) : Option (Tb α) := bs.foldl (tight N) T
def free (N : List α) : Tb α := fun x y => if x = y ∧ x ∈ N then some 0 else none

theorem free_of {N : List α} {x y : α} {w : Int} (e : free N x y = some w) : x = y ∧ x ∈ N ∧ w = 0 := by
  unfold free at e
  split at e
  · rename_i h; exact ⟨h.1, h.2, (Option.some.inj e).symm⟩
  · cases e
theorem free_cl (N : List α) : Cl N [] (free N) where
  refl := fun x hx => by simp [free, hx]
  dom := fun x y w e => by
    obtain ⟨e1, e2, _⟩ := free_of e
    exact ⟨e2, e1 ▸ e2⟩
  tri := fun x y z a b e1 e2 => by
    obtain ⟨rfl, hx, rfl⟩ := free_of e1
    obtain ⟨rfl, _, rfl⟩ := free_of e2
    exact ⟨0, by simp [free, hx], by omega⟩
  edge := fun _ _ _ h => by cases h
  way := fun x y w e => by
    obtain ⟨rfl, hx, rfl⟩ := free_of e
    exact .nil x

theorem bestT_le {T : Tb α} {i j : α} {c : Int} {x y : α} {w : Int} (e : T x y = some w) : ∃ t, bestT T i j c x y = some t ∧ t ≤ w := by
  unfold bestT
  rw [e]
  cases wayT T i j c x y with
  | none => exact ⟨w, rfl, Int.le_refl _⟩
  | some v =>
    refine ⟨_, rfl, ?_⟩
    show (if v < w then v else w) ≤ w
    split <;> omega
theorem bestT_le2 {T : Tb α} {i j : α} {c : Int} {x y : α} {a b : Int} (e : T x i = some a) (e' : T j y = some b) : ∃ t, bestT T i j c x y = some t ∧ t ≤ a + c + b := by
  have q : wayT T i j c x y = some (a + c + b) := by unfold wayT; rw [e, e']
  unfold bestT
  rw [q]
  cases T x y with
  | none => exact ⟨_, rfl, Int.le_refl _⟩
  | some w =>
    refine ⟨_, rfl, ?_⟩
    show (if a + c + b < w then a + c + b else w) ≤ a + c + b
    split <;> omega
theorem bestT_of {T : Tb α} {i j : α} {c : Int} {x y : α} {t : Int} (e : bestT T i j c x y = some t) : T x y = some t ∨ ∃ a b, T x i = some a ∧ T j y = some b ∧ t = a + c + b := by
  unfold bestT at e
  cases q : wayT T i j c x y with
  | none => rw [q] at e; exact .inl e
  | some v =>
    have hv : ∃ a b, T x i = some a ∧ T j y = some b ∧ v = a + c + b := by
      unfold wayT at q
      cases q1 : T x i with
      | none => rw [q1] at q; cases q
      | some a =>
        cases q2 : T j y with
        | none => rw [q1, q2] at q; cases q
        | some b => rw [q1, q2] at q; cases q; exact ⟨a, b, rfl, rfl, rfl⟩
    rw [q] at e
    cases q3 : T x y with
    | none => rw [q3] at e; cases e; exact .inr hv
    | some w =>
      rw [q3] at e
      have e' : (if v < w then v else w) = t := Option.some.inj e
      split at e'
      · exact .inr (e' ▸ hv)
      · exact .inl (by rw [e'])

theorem tight_cl {N : List α} {B : List (Bd α)} {T : Tb α} {i j : α} {c : Int} (h : Cl N B T) (hi : i ∈ N) (hj : j ∈ N) (hn : ∀ t, T j i = some t → 0 ≤ t + c) :
    Cl N (B ++ [(i, j, c)]) (fun x y => if x ∈ N ∧ y ∈ N then bestT T i j c x y else none) := by
  have inl : ∀ e, e ∈ B → e ∈ B ++ [(i, j, c)] := fun e he => List.mem_append_left _ he
  have val : ∀ {x y w}, (if x ∈ N ∧ y ∈ N then bestT T i j c x y else none) = some w → x ∈ N ∧ y ∈ N ∧ bestT T i j c x y = some w := fun {x y w} e => by
    split at e
    · rename_i q; exact ⟨q.1, q.2, e⟩
    · cases e
  refine ⟨fun x hx => ?_, fun x y w e => ⟨(val e).1, (val e).2.1⟩, fun x y z a b e1 e2 => ?_, fun x y d hd => ?_, fun x y w e => ?_⟩
  · show (if x ∈ N ∧ x ∈ N then bestT T i j c x x else none) = some 0
    rw [if_pos ⟨hx, hx⟩]
    obtain ⟨t, e, l⟩ := bestT_le (i := i) (j := j) (c := c) (h.refl x hx)
    rcases bestT_of e with q | ⟨a, b, q1, q2, q3⟩
    · rw [h.refl x hx] at q; cases q; exact e
    · obtain ⟨d, q4, l4⟩ := h.tri _ _ _ _ _ q2 q1
      have := hn d q4
      have : t = 0 := by omega
      rw [e, this]
  · obtain ⟨hx, hy, e1⟩ := val e1
    obtain ⟨_, hz, e2⟩ := val e2
    show ∃ d, (if x ∈ N ∧ z ∈ N then bestT T i j c x z else none) = some d ∧ d ≤ a + b
    rw [if_pos ⟨hx, hz⟩]
    rcases bestT_of e1 with q | ⟨a1, b1, q1, q2, q3⟩
    · rcases bestT_of e2 with r | ⟨a2, b2, r1, r2, r3⟩
      · obtain ⟨d, e, l⟩ := h.tri _ _ _ _ _ q r
        obtain ⟨t, e', l'⟩ := bestT_le (i := i) (j := j) (c := c) e
        exact ⟨t, e', by omega⟩
      · obtain ⟨d, e, l⟩ := h.tri _ _ _ _ _ q r1
        obtain ⟨t, e', l'⟩ := bestT_le2 (c := c) e r2
        exact ⟨t, e', by omega⟩
    · rcases bestT_of e2 with r | ⟨a2, b2, r1, r2, r3⟩
      · obtain ⟨d, e, l⟩ := h.tri _ _ _ _ _ q2 r
        obtain ⟨t, e', l'⟩ := bestT_le2 (c := c) q1 e
        exact ⟨t, e', by omega⟩
      · obtain ⟨d, e, l⟩ := h.tri _ _ _ _ _ q2 r1
        have := hn d e
        obtain ⟨t, e', l'⟩ := bestT_le2 (c := c) q1 r2
        exact ⟨t, e', by omega⟩
  · show ∃ t, (if x ∈ N ∧ y ∈ N then bestT T i j c x y else none) = some t ∧ t ≤ d
    rcases List.mem_append.mp hd with hd | hd
    · obtain ⟨t, e, l⟩ := h.edge _ _ _ hd
      obtain ⟨hx, hy⟩ := h.dom _ _ _ e
      rw [if_pos ⟨hx, hy⟩]
      obtain ⟨u, e', l'⟩ := bestT_le (i := i) (j := j) (c := c) e
      exact ⟨u, e', by omega⟩
    · have q := List.mem_singleton.mp hd
      cases q
      rw [if_pos ⟨hi, hj⟩]
      obtain ⟨t, e, l⟩ := bestT_le2 (c := c) (h.refl _ hi) (h.refl _ hj)
      exact ⟨t, e, by omega⟩
  · obtain ⟨_, _, e⟩ := val e
    rcases bestT_of e with q | ⟨a, b, q1, q2, q3⟩
    · exact (h.way _ _ _ q).mono inl
    · rw [q3]
      have p1 := ((h.way _ _ _ q1).mono inl).trans (Way.one (List.mem_append_right B (List.mem_singleton.mpr (rfl : (i, j, c) = (i, j, c)))))
      exact p1.trans ((h.way _ _ _ q2).mono inl)
theorem tight_same {N : List α} {B : List (Bd α)} {T : Tb α} {i j : α} {c u : Int} (h : Cl N B T) (e : T i j = some u) (l : u ≤ c) : Cl N (B ++ [(i, j, c)]) T := by
  refine ⟨h.refl, h.dom, h.tri, fun x y d hd => ?_, fun x y w e => (h.way x y w e).mono fun _ he => List.mem_append_left _ he⟩
  rcases List.mem_append.mp hd with hd | hd
  · exact h.edge _ _ _ hd
  · have q := List.mem_singleton.mp hd
    cases q
    exact ⟨u, e, l⟩
theorem tight_neg {N : List α} {B : List (Bd α)} {T : Tb α} {i j : α} {c t : Int} (h : Cl N B T) (e : T j i = some t) (l : t + c < 0) : Neg (B ++ [(i, j, c)]) := by
  have p1 : Way (B ++ [(i, j, c)]) j i t := (h.way _ _ _ e).mono fun _ he => List.mem_append_left _ he
  have p2 : Way (B ++ [(i, j, c)]) i j c := Way.one (List.mem_append_right B (List.mem_singleton.mpr rfl))
  exact ⟨j, _, p1.trans p2, l⟩
theorem tight_clo {N : List α} {B : List (Bd α)} {T : Option (Tb α)} {b : Bd α} (h : Clo N B T) (hi : b.1 ∈ N) (hj : b.2.1 ∈ N) : Clo N (B ++ [b]) (tight N T b) := by
  obtain ⟨i, j, c⟩ := b
  cases T with
  | none => exact Neg.mono (fun e he => List.mem_append_left _ he) h
  | some T =>
    have h : Cl N B T := h
    unfold tight
    dsimp only
    cases e : T j i with
    | some t =>
      dsimp only
      by_cases l : t + c < 0
      · rw [if_pos l]; exact tight_neg h e l
      · rw [if_neg l]
        have hn : ∀ t, T j i = some t → 0 ≤ t + c := fun t' e' => by rw [e] at e'; cases e'; omega
        cases e2 : T i j with
        | some u =>
          dsimp only
          by_cases l2 : u ≤ c
          · rw [if_pos l2]; exact tight_same h e2 l2
          · rw [if_neg l2]; exact tight_cl h hi hj hn
        | none => exact tight_cl h hi hj hn
    | none =>
      dsimp only
      have hn : ∀ t, T j i = some t → 0 ≤ t + c := fun t' e' => by rw [e] at e'; cases e'
      cases e2 : T i j with
      | some u =>
        dsimp only
        by_cases l2 : u ≤ c
        · rw [if_pos l2]; exact tight_same h e2 l2
        · rw [if_neg l2]; exact tight_cl h hi hj hn
      | none => exact tight_cl h hi hj hn
theorem tights_clo {N : List α} {bs B : List (Bd α)} {T : Option (Tb α)} (h : Clo N B T) (hb : In N bs) : Clo N (B ++ bs) (tights N T bs) := by
  induction bs generalizing B T with
  | nil => simpa [tights] using h
  | cons b r ih =>
    have q := tight_clo h (hb b List.mem_cons_self).1 (hb b List.mem_cons_self).2
    have := ih q fun e he => hb e (List.mem_cons_of_mem _ he)
    rw [List.append_assoc] at this
    exact this

def setT (T : Tb α) (i j : α) (w : Int) : Tb α := fun x y => if x = i ∧ y = j then some w else T x y
/-- found[i, j] = w where it is new or less -/
def low (T : Tb α) (i j : α) (w : Int) : Tb α :=
  match T i j with
  | none => setT T i j w
  | some v => if w < v then setT T i j w else T
def lowB (T : Tb α) (b : Bd α) : Tb α := low T b.1 b.2.1 b.2.2
def stJ (k i : α) (T : Tb α) (j : α) : Tb α :=
  match T i k, T k j with
  | some a, some b => low T i j (a + b)
  | _, _ => T
def stI (N : List α) (k : α) (T : Tb α) (i : α) : Tb α := N.foldl (stJ k i) T
def stK (N : List α) (T : Tb α) (k : α) : Tb α := N.foldl (stI N k) T
def way0 (N : List α) (B : List (Bd α)) : Tb α := B.foldl lowB (free N)
def wayK (N : List α) (B : List (Bd α)) : Tb α := N.foldl (stK N) (way0 N B)
def ways (N : List α) (B : List (Bd α)) : Option (Tb α) := if ∃ x, x ∈ N ∧ ∃ w, wayK N B x x = some w ∧ w < 0 then none else some (wayK N B)

theorem low_at {T : Tb α} {i j : α} {w : Int} : ∃ t, low T i j w i j = some t ∧ t ≤ w := by
  unfold low
  cases e : T i j with
  | none => exact ⟨w, by simp [setT], Int.le_refl _⟩
  | some v =>
    dsimp only
    split
    · exact ⟨w, by simp [setT], Int.le_refl _⟩
    · exact ⟨v, e, by omega⟩
theorem low_le {T : Tb α} {i j x y : α} {w v : Int} (e : T x y = some v) : ∃ t, low T i j w x y = some t ∧ t ≤ v := by
  by_cases h : x = i ∧ y = j
  · obtain ⟨rfl, rfl⟩ := h
    unfold low
    rw [e]
    dsimp only
    split
    · exact ⟨w, by simp [setT], by omega⟩
    · exact ⟨v, e, Int.le_refl _⟩
  · refine ⟨v, ?_, Int.le_refl _⟩
    unfold low
    cases T i j with
    | none => show setT T i j w x y = some v; unfold setT; rw [if_neg h]; exact e
    | some u =>
      dsimp only
      split
      · show setT T i j w x y = some v; unfold setT; rw [if_neg h]; exact e
      · exact e
theorem low_of {T : Tb α} {i j x y : α} {w t : Int} (e : low T i j w x y = some t) : T x y = some t ∨ (x = i ∧ y = j ∧ t = w) := by
  have key : ∀ (e : setT T i j w x y = some t), T x y = some t ∨ (x = i ∧ y = j ∧ t = w) := fun e => by
    unfold setT at e
    split at e
    · rename_i h; exact .inr ⟨h.1, h.2, (Option.some.inj e).symm⟩
    · exact .inl e
  unfold low at e
  cases q : T i j with
  | none => rw [q] at e; exact key e
  | some v =>
    rw [q] at e
    dsimp only at e
    split at e
    · exact key e
    · exact .inl e
/-- entries only fall -/
def Le (T T' : Tb α) : Prop := ∀ x y w, T x y = some w → ∃ t, T' x y = some t ∧ t ≤ w
theorem Le.refl (T : Tb α) : Le T T := fun _ _ w e => ⟨w, e, Int.le_refl _⟩
theorem Le.trans {T T' T'' : Tb α} (a : Le T T') (b : Le T' T'') : Le T T'' := fun x y w e => by
  obtain ⟨t, e1, l1⟩ := a x y w e
  obtain ⟨u, e2, l2⟩ := b x y t e1
  exact ⟨u, e2, by omega⟩
theorem low_Le (T : Tb α) (i j : α) (w : Int) : Le T (low T i j w) := fun _ _ _ e => low_le e
theorem stJ_Le (k i : α) (T : Tb α) (j : α) : Le T (stJ k i T j) := by
  unfold stJ
  cases T i k with
  | none => exact Le.refl T
  | some a =>
    cases T k j with
    | none => exact Le.refl T
    | some b => exact low_Le T i j _
theorem foldl_Le {β : Type} (f : Tb α → β → Tb α) (h : ∀ T b, Le T (f T b)) : ∀ (l : List β) (T : Tb α), Le T (l.foldl f T)
  | [], T => Le.refl T
  | b :: r, T => (h T b).trans (foldl_Le f h r (f T b))
theorem stI_Le (N : List α) (k : α) (T : Tb α) (i : α) : Le T (stI N k T i) := foldl_Le _ (stJ_Le k i) N T
theorem stK_Le (N : List α) (T : Tb α) (k : α) : Le T (stK N T k) := foldl_Le _ (stI_Le N k) N T
/-- each entry is the sum of a way, between names -/
def Snd (N : List α) (B : List (Bd α)) (T : Tb α) : Prop := ∀ x y w, T x y = some w → Way B x y w ∧ x ∈ N ∧ y ∈ N
theorem low_Snd {N : List α} {B : List (Bd α)} {T : Tb α} {i j : α} {w : Int} (h : Snd N B T) (p : Way B i j w) (hi : i ∈ N) (hj : j ∈ N) : Snd N B (low T i j w) := fun x y t e => by
  rcases low_of e with q | ⟨rfl, rfl, rfl⟩
  · exact h x y t q
  · exact ⟨p, hi, hj⟩
theorem stJ_Snd {N : List α} {B : List (Bd α)} {k i j : α} {T : Tb α} (h : Snd N B T) : Snd N B (stJ k i T j) := by
  unfold stJ
  cases e1 : T i k with
  | none => exact h
  | some a =>
    cases e2 : T k j with
    | none => exact h
    | some b =>
      obtain ⟨p, hi, _⟩ := h _ _ _ e1
      obtain ⟨q, _, hj⟩ := h _ _ _ e2
      exact low_Snd h (p.trans q) hi hj
theorem foldl_P {β : Type} {P : Tb α → Prop} (f : Tb α → β → Tb α) (h : ∀ T b, P T → P (f T b)) : ∀ (l : List β) (T : Tb α), P T → P (l.foldl f T)
  | [], _, p => p
  | b :: r, T, p => foldl_P f h r (f T b) (h T b p)
theorem stI_Snd {N : List α} {B : List (Bd α)} {k i : α} {T : Tb α} (h : Snd N B T) : Snd N B (stI N k T i) := foldl_P (P := Snd N B) (stJ k i) (fun _ _ p => stJ_Snd p) N T h
theorem stK_Snd {N : List α} {B : List (Bd α)} {k : α} {T : Tb α} (h : Snd N B T) : Snd N B (stK N T k) := foldl_P (P := Snd N B) (stI N k) (fun _ _ p => stI_Snd p) N T h
theorem way0_Snd {N : List α} {B : List (Bd α)} (hB : In N B) : Snd N B (way0 N B) := by
  have base : Snd N B (free N) := fun x y w e => by
    have hd := (free_cl N).dom x y w e
    exact ⟨((free_cl N).way x y w e).mono (fun _ h => by cases h), hd⟩
  have gen : ∀ (l : List (Bd α)) (T : Tb α), (∀ e, e ∈ l → e ∈ B) → Snd N B T → Snd N B (l.foldl lowB T) := by
    intro l
    induction l with
    | nil => intro T _ h; exact h
    | cons b r ih =>
      intro T hs h
      refine ih _ (fun e he => hs e (List.mem_cons_of_mem _ he)) ?_
      have hb := hs b List.mem_cons_self
      exact low_Snd h (Way.one (by obtain ⟨x, y, c⟩ := b; exact hb)) (hB b hb).1 (hB b hb).2
  exact gen B _ (fun _ h => h) base
theorem way0_edge {N : List α} {B : List (Bd α)} {x y : α} {c : Int} (h : (x, y, c) ∈ B) : ∃ t, way0 N B x y = some t ∧ t ≤ c := by
  have gen : ∀ (l : List (Bd α)) (T : Tb α), (x, y, c) ∈ l → ∃ t, l.foldl lowB T x y = some t ∧ t ≤ c := by
    intro l
    induction l with
    | nil => intro T h; cases h
    | cons b r ih =>
      intro T h
      rcases List.mem_cons.mp h with e | e
      · subst e
        obtain ⟨t, q, l⟩ := low_at (T := T) (i := x) (j := y) (w := c)
        obtain ⟨u, q', l'⟩ := foldl_Le lowB (fun T b => low_Le T b.1 b.2.1 b.2.2) r (lowB T (x, y, c)) x y t q
        exact ⟨u, q', by omega⟩
      · exact ih _ e
  exact gen B _ h
/-- no entry at the diagonal is below 0 -/
def Diag (N : List α) (T : Tb α) : Prop := ∀ x, x ∈ N → ∀ w, T x x = some w → 0 ≤ w
theorem Diag.back {N : List α} {T T' : Tb α} (d : Diag N T') (l : Le T T') : Diag N T := fun x hx w e => by
  obtain ⟨t, e', h⟩ := l x x w e
  have := d x hx t e'
  omega
/-- one turn by k, told at once -/
def Turn (T T' : Tb α) (k : α) : Prop := ∀ x y, T' x y = (match T x k, T k y with
  | some a, some b => some (match T x y with | some w => if a + b < w then a + b else w | none => a + b)
  | _, _ => T x y)
/-- what one turn asks of the table ahead of it -/
theorem stJ_at {k i j x y : α} {T : Tb α} : stJ k i T j x y = if x = i ∧ y = j then (match T i k, T k j with
  | some a, some b => some (match T i j with | some w => if a + b < w then a + b else w | none => a + b)
  | _, _ => T i j) else T x y := by
  by_cases h : x = i ∧ y = j
  · rw [if_pos h]
    obtain ⟨rfl, rfl⟩ := h
    unfold stJ
    cases e1 : T x k with
    | none => rfl
    | some a =>
      cases e2 : T k y with
      | none => rfl
      | some b =>
        dsimp only
        unfold low
        cases e3 : T x y with
        | none => show setT T x y (a + b) x y = _; unfold setT; rw [if_pos ⟨rfl, rfl⟩]
        | some v =>
          dsimp only
          by_cases l : a + b < v
          · rw [if_pos l, if_pos l]; unfold setT; rw [if_pos ⟨rfl, rfl⟩]
          · rw [if_neg l, if_neg l]; exact e3
  · rw [if_neg h]
    unfold stJ
    cases e1 : T i k with
    | none => rfl
    | some a =>
      cases e2 : T k j with
      | none => rfl
      | some b =>
        dsimp only
        unfold low
        cases e3 : T i j with
        | none => show setT T i j (a + b) x y = _; unfold setT; rw [if_neg h]
        | some v =>
          dsimp only
          by_cases l : a + b < v
          · rw [if_pos l]; unfold setT; rw [if_neg h]
          · rw [if_neg l]

/-- entries at row k and column k stand while the diagonal at k is 0 -/
theorem stJ_row {k i j : α} {T : Tb α} (hk : T k k = some 0) : (∀ y, stJ k i T j k y = T k y) ∧ ∀ x, stJ k i T j x k = T x k := by
  constructor
  · intro y
    rw [stJ_at]
    split
    · rename_i h
      obtain ⟨rfl, rfl⟩ := h
      rw [hk]
      cases e : T k y with
      | none => rfl
      | some b =>
        dsimp only
        rw [if_neg (by omega)]
    · rfl
  · intro x
    rw [stJ_at]
    split
    · rename_i h
      obtain ⟨rfl, rfl⟩ := h
      rw [hk]
      cases e : T x k with
      | none => rfl
      | some b =>
        dsimp only
        rw [if_neg (by omega)]
    · rfl
/-- what the turns by k make of an entry -/
def newK (T : Tb α) (k x y : α) : Option Int := match T x k, T k y with
  | some a, some b => some (match T x y with | some w => if a + b < w then a + b else w | none => a + b)
  | _, _ => T x y
theorem newK_fix {T : Tb α} {k x y : α} : (match T x k, T k y with
  | some a, some b => some (match newK T k x y with | some w => if a + b < w then a + b else w | none => a + b)
  | _, _ => newK T k x y) = newK T k x y := by
  unfold newK
  cases T x k with
  | none => rfl
  | some a =>
    cases T k y with
    | none => rfl
    | some b =>
      cases T x y with
      | none => simp
      | some w =>
        dsimp only
        congr 1
        by_cases l : a + b < w
        · rw [if_pos l]; rw [if_neg (by omega)]
        · rw [if_neg l]; rw [if_neg l]
/-- a run of turns: each entry is the old one, or the new one; the entries of turns that were made are new -/
structure Half (T T' : Tb α) (k : α) (D : α → α → Prop) : Prop where
  row : ∀ y, T' k y = T k y
  col : ∀ x, T' x k = T x k
  done : ∀ x y, D x y → T' x y = newK T k x y
  rest : ∀ x y, T' x y = newK T k x y ∨ T' x y = T x y
theorem half_step {T T' : Tb α} {k i j : α} {D : α → α → Prop} (hk : T k k = some 0) (h : Half T T' k D) : Half T (stJ k i T' j) k (fun x y => D x y ∨ (x = i ∧ y = j)) := by
  have hk' : T' k k = some 0 := by rw [h.row]; exact hk
  have r := stJ_row (i := i) (j := j) hk'
  have new : stJ k i T' j i j = newK T k i j := by
    rw [stJ_at, if_pos ⟨rfl, rfl⟩, h.col i, h.row j]
    rcases h.rest i j with e | e
    · rw [e]; exact newK_fix
    · rw [e]; rfl
  refine ⟨fun y => (r.1 y).trans (h.row y), fun x => (r.2 x).trans (h.col x), fun x y d => ?_, fun x y => ?_⟩
  · by_cases q : x = i ∧ y = j
    · rw [q.1, q.2]; exact new
    · rw [stJ_at, if_neg q]
      rcases d with d | d
      · exact h.done x y d
      · exact absurd d q
  · by_cases q : x = i ∧ y = j
    · rw [q.1, q.2]; exact .inl new
    · rw [stJ_at, if_neg q]; exact h.rest x y
theorem half_I {T : Tb α} {k i : α} (hk : T k k = some 0) : ∀ (l : List α) (T' : Tb α) (D : α → α → Prop), Half T T' k D → Half T (l.foldl (stJ k i) T') k (fun x y => D x y ∨ (x = i ∧ y ∈ l))
  | [], T', D, h => ⟨h.row, h.col, fun x y d => h.done x y (d.elim id fun z => nomatch z.2), h.rest⟩
  | j :: r, T', D, h => by
    have q := half_I (i := i) hk r _ _ (half_step (i := i) (j := j) hk h)
    refine ⟨q.row, q.col, fun x y d => q.done x y ?_, q.rest⟩
    rcases d with d | ⟨d1, d2⟩
    · exact .inl (.inl d)
    · rcases List.mem_cons.mp d2 with e | e
      · exact .inl (.inr ⟨d1, e⟩)
      · exact .inr ⟨d1, e⟩
theorem half_K {N : List α} {T : Tb α} {k : α} (hk : T k k = some 0) : ∀ (l : List α) (T' : Tb α) (D : α → α → Prop), Half T T' k D → Half T (l.foldl (stI N k) T') k (fun x y => D x y ∨ (x ∈ l ∧ y ∈ N))
  | [], T', D, h => ⟨h.row, h.col, fun x y d => h.done x y (d.elim id fun z => nomatch z.1), h.rest⟩
  | i :: r, T', D, h => by
    have q := half_K (N := N) hk r _ _ (half_I (i := i) hk N T' D h)
    refine ⟨q.row, q.col, fun x y d => q.done x y ?_, q.rest⟩
    rcases d with d | ⟨d1, d2⟩
    · exact .inl (.inl d)
    · rcases List.mem_cons.mp d1 with e | e
      · exact .inl (.inr ⟨e, d2⟩)
      · exact .inr ⟨e, d2⟩
theorem stK_new {N : List α} {T : Tb α} {k x y : α} (hk : T k k = some 0) (hx : x ∈ N) (hy : y ∈ N) : stK N T k x y = newK T k x y :=
  (half_K (N := N) hk N T (fun _ _ => False) ⟨fun _ => rfl, fun _ => rfl, fun _ _ z => z.elim, fun _ _ => .inr rfl⟩).done x y (.inr ⟨hx, hy⟩)
/-- the triangle over the names in S -/
def Tri (S : α → Prop) (T : Tb α) : Prop := ∀ k, S k → ∀ x y a b, T x k = some a → T k y = some b → ∃ c, T x y = some c ∧ c ≤ a + b
theorem newK_le {T : Tb α} {k x y : α} {w : Int} (e : T x y = some w) : ∃ t, newK T k x y = some t ∧ t ≤ w := by
  unfold newK
  rw [e]
  cases T x k with
  | none => exact ⟨w, rfl, Int.le_refl _⟩
  | some a =>
    cases T k y with
    | none => exact ⟨w, rfl, Int.le_refl _⟩
    | some b =>
      refine ⟨_, rfl, ?_⟩
      dsimp only
      split <;> omega
theorem newK_le2 {T : Tb α} {k x y : α} {a b : Int} (e1 : T x k = some a) (e2 : T k y = some b) : ∃ t, newK T k x y = some t ∧ t ≤ a + b := by
  unfold newK
  rw [e1, e2]
  cases T x y with
  | none => exact ⟨_, rfl, Int.le_refl _⟩
  | some w =>
    refine ⟨_, rfl, ?_⟩
    dsimp only
    split <;> omega
theorem newK_of {T : Tb α} {k x y : α} {t : Int} (e : newK T k x y = some t) : T x y = some t ∨ ∃ a b, T x k = some a ∧ T k y = some b ∧ t = a + b := by
  unfold newK at e
  cases e1 : T x k with
  | none => rw [e1] at e; exact .inl e
  | some a =>
    cases e2 : T k y with
    | none => rw [e1, e2] at e; exact .inl e
    | some b =>
      rw [e1, e2] at e
      cases e3 : T x y with
      | none => rw [e3] at e; exact .inr ⟨a, b, rfl, rfl, (Option.some.inj e).symm⟩
      | some w =>
        rw [e3] at e
        have e := Option.some.inj e
        dsimp only at e
        split at e
        · exact .inr ⟨a, b, rfl, rfl, e.symm⟩
        · exact .inl (by rw [e])
theorem tri_step {N : List α} {B : List (Bd α)} {S : α → Prop} {T : Tb α} {k : α} (sn : Snd N B T) (hk : T k k = some 0) (hkN : k ∈ N) (h : Tri S T) : Tri (fun x => S x ∨ x = k) (stK N T k) := by
  have sn' : Snd N B (stK N T k) := stK_Snd sn
  intro m hm x y a b e1 e2
  have hx := (sn' _ _ _ e1).2.1
  have hmN := (sn' _ _ _ e1).2.2
  have hy := (sn' _ _ _ e2).2.2
  rw [stK_new hk hx hmN] at e1
  rw [stK_new hk hmN hy] at e2
  rw [stK_new hk hx hy]
  by_cases hmk : m = k
  · subst hmk
    -- the entries by k itself are the old ones
    have o1 : ∃ t, T x m = some t ∧ t ≤ a := by
      rcases newK_of e1 with q | ⟨a', b', q1, q2, q3⟩
      · exact ⟨a, q, Int.le_refl _⟩
      · rw [hk] at q2; cases q2; exact ⟨a', q1, by omega⟩
    have o2 : ∃ t, T m y = some t ∧ t ≤ b := by
      rcases newK_of e2 with q | ⟨a', b', q1, q2, q3⟩
      · exact ⟨b, q, Int.le_refl _⟩
      · rw [hk] at q1; cases q1; exact ⟨b', q2, by omega⟩
    obtain ⟨t1, q1, l1⟩ := o1
    obtain ⟨t2, q2, l2⟩ := o2
    obtain ⟨t, q, l⟩ := newK_le2 q1 q2
    exact ⟨t, q, by omega⟩
  · have hS : S m := hm.elim id fun z => absurd z hmk
    rcases newK_of e1 with q | ⟨a1, b1, q1, q2, q3⟩
    · rcases newK_of e2 with r | ⟨a2, b2, r1, r2, r3⟩
      · obtain ⟨c, e, l⟩ := h m hS x y a b q r
        obtain ⟨t, e', l'⟩ := newK_le (k := k) e
        exact ⟨t, e', by omega⟩
      · obtain ⟨c, e, l⟩ := h m hS x k a a2 q r1
        obtain ⟨t, e', l'⟩ := newK_le2 e r2
        exact ⟨t, e', by omega⟩
    · rcases newK_of e2 with r | ⟨a2, b2, r1, r2, r3⟩
      · obtain ⟨c, e, l⟩ := h m hS k y b1 b q2 r
        obtain ⟨t, e', l'⟩ := newK_le2 q1 e
        exact ⟨t, e', by omega⟩
      · obtain ⟨c, e, l⟩ := h m hS k k b1 a2 q2 r1
        rw [hk] at e; cases e
        obtain ⟨t, e', l'⟩ := newK_le2 q1 r2
        exact ⟨t, e', by omega⟩
/-- the diagonal is 0 where the end's is not below 0 -/
theorem diag0 {N : List α} {B : List (Bd α)} {T : Tb α} (l : Le (way0 N B) T) (d : Diag N T) {x : α} (hx : x ∈ N) : T x x = some 0 := by
  obtain ⟨t, e, lt⟩ := ((foldl_Le lowB (fun T b => low_Le T b.1 b.2.1 b.2.2) B (free N)).trans l) x x 0 ((free_cl N).refl x hx)
  have := d x hx t e
  rw [e, show t = 0 by omega]
/-- entries within M * 2 ^ n -/
def Bnd (T : Tb α) (m : Int) : Prop := ∀ x y w, T x y = some w → -m ≤ w ∧ w ≤ m
theorem ways_run {N : List α} {B : List (Bd α)} : ∀ (l : List α) (T : Tb α) (S : α → Prop) (m : Int), (∀ x, x ∈ l → x ∈ N) → Snd N B T → Le (way0 N B) T → Diag N (l.foldl (stK N) T) → Tri S T → Bnd T m →
    Snd N B (l.foldl (stK N) T) ∧ Le (way0 N B) (l.foldl (stK N) T) ∧ Tri (fun x => S x ∨ x ∈ l) (l.foldl (stK N) T) ∧ Bnd (l.foldl (stK N) T) (m * 2 ^ l.length)
  | [], T, S, m, _, sn, le, _, tr, bn => ⟨sn, le, fun k hk => tr k (hk.elim id fun z => nomatch z), by simpa using bn⟩
  | k :: r, T, S, m, hl, sn, le, d, tr, bn => by
    have hkN := hl k List.mem_cons_self
    have le1 : Le T ((k :: r).foldl (stK N) T) := foldl_Le _ (stK_Le N) _ T
    have dT : Diag N T := d.back le1
    have hk : T k k = some 0 := diag0 le dT hkN
    have sn1 : Snd N B (stK N T k) := stK_Snd sn
    have bn1 : Bnd (stK N T k) (m * 2) := fun x y w e => by
      have hx := (sn1 _ _ _ e).2.1
      have hy := (sn1 _ _ _ e).2.2
      rw [stK_new hk hx hy] at e
      rcases newK_of e with q | ⟨a, b, q1, q2, q3⟩
      · have := bn _ _ _ q; omega
      · have := bn _ _ _ q1; have := bn _ _ _ q2; omega
    obtain ⟨r1, r2, r3, r4⟩ := ways_run r (stK N T k) (fun x => S x ∨ x = k) (m * 2) (fun x hx => hl x (List.mem_cons_of_mem _ hx)) sn1 (le.trans (stK_Le N T k)) d (tri_step sn hk hkN tr) bn1
    refine ⟨r1, r2, fun x hx => r3 x ?_, ?_⟩
    · rcases hx with z | z
      · exact .inl (.inl z)
      · rcases List.mem_cons.mp z with z | z
        · exact .inl (.inr z)
        · exact .inr z
    · have e : m * 2 ^ (k :: r).length = m * 2 * 2 ^ r.length := by
        rw [List.length_cons, Int.pow_succ, Int.mul_comm (2 ^ r.length) 2, Int.mul_assoc]
      rw [e]; exact r4
theorem way0_bnd {N : List α} {B : List (Bd α)} {m : Int} (h0 : 0 ≤ m) (hB : ∀ e, e ∈ B → -m ≤ e.2.2 ∧ e.2.2 ≤ m) : Bnd (way0 N B) m := by
  have gen : ∀ (l : List (Bd α)) (T : Tb α), (∀ e, e ∈ l → -m ≤ e.2.2 ∧ e.2.2 ≤ m) → Bnd T m → Bnd (l.foldl lowB T) m := by
    intro l
    induction l with
    | nil => intro T _ h; exact h
    | cons b r ih =>
      intro T hs h
      refine ih _ (fun e he => hs e (List.mem_cons_of_mem _ he)) fun x y w e => ?_
      rcases low_of e with q | ⟨_, _, rfl⟩
      · exact h x y w q
      · exact hs b List.mem_cons_self
  refine gen B _ hB fun x y w e => ?_
  obtain ⟨_, _, rfl⟩ := free_of e
  omega
theorem ways_clo {N : List α} {B : List (Bd α)} (hB : In N B) : Clo N B (ways N B) := by
  unfold ways
  by_cases h : ∃ x, x ∈ N ∧ ∃ w, wayK N B x x = some w ∧ w < 0
  · rw [if_pos h]
    obtain ⟨x, _, w, e, l⟩ := h
    have sn : Snd N B (wayK N B) := foldl_P (P := Snd N B) (stK N) (fun _ _ p => stK_Snd p) N (way0 N B) (way0_Snd hB)
    exact ⟨x, w, (sn _ _ _ e).1, l⟩
  · rw [if_neg h]
    have d : Diag N (wayK N B) := fun x hx w e => by
      by_cases l : w < 0
      · exact absurd ⟨x, hx, w, e, l⟩ h
      · omega
    have sn0 := way0_Snd hB
    obtain ⟨m, hm⟩ : ∃ m : Int, Bnd (way0 N B) m := by
      obtain ⟨m, h0, hm⟩ : ∃ m : Int, 0 ≤ m ∧ ∀ e, e ∈ B → -m ≤ e.2.2 ∧ e.2.2 ≤ m := by
        clear h d sn0 hB
        induction B with
        | nil => exact ⟨0, Int.le_refl _, fun _ h => nomatch h⟩
        | cons b r ih =>
          obtain ⟨m, h0, hm⟩ := ih
          refine ⟨m + b.2.2.natAbs, by omega, fun e he => ?_⟩
          rcases List.mem_cons.mp he with q | q
          · subst q; omega
          · have := hm e q; omega
      exact ⟨m, way0_bnd h0 hm⟩
    obtain ⟨sn, le, tr, _⟩ := ways_run N (way0 N B) (fun _ => False) m (fun _ h => h) sn0 (Le.refl _) d (fun _ z => z.elim) hm
    refine ⟨fun x hx => diag0 le d hx, fun x y w e => (sn x y w e).2, fun x y z a b e1 e2 => tr y (.inr (sn _ _ _ e1).2.2) x z a b e1 e2, fun x y c e => ?_, fun x y w e => (sn x y w e).1⟩
    obtain ⟨t, e1, l1⟩ := way0_edge (N := N) e
    obtain ⟨u, e2, l2⟩ := le x y t e1
    exact ⟨u, e2, by omega⟩
theorem ways_bnd {N : List α} {B : List (Bd α)} {T : Tb α} {m : Int} (hB : In N B) (h0 : 0 ≤ m) (hm : ∀ e, e ∈ B → -m ≤ e.2.2 ∧ e.2.2 ≤ m) (e : ways N B = some T) : Bnd T (m * 2 ^ N.length) := by
  unfold ways at e
  split at e
  · cases e
  · rename_i h
    cases e
    have d : Diag N (wayK N B) := fun x hx w e => by
      by_cases l : w < 0
      · exact absurd ⟨x, hx, w, e, l⟩ h
      · omega
    exact (ways_run N (way0 N B) (fun _ => False) m (fun _ h => h) (way0_Snd hB) (Le.refl _) d (fun _ z => z.elim) (way0_bnd h0 hm)).2.2.2

/-- within, of tables that may be none -/
def leT (T T' : Option (Tb α)) : Prop := match T, T' with
  | some T, some T' => Le T' T
  | T, _ => T = none
theorem le_iff_and {N : List α} {B B' : List (Bd α)} {T T' T'' : Option (Tb α)} (h : Clo N B T) (h' : Clo N B' T') (h'' : Clo N (B ++ B') T'') : leT T T' ↔ T'' = T := by
  cases T with
  | none =>
    have : T'' = none := Clo.uniq h'' (show Clo N (B ++ B') none from Neg.mono (fun e he => List.mem_append_left _ he) h) fun _ => Iff.rfl
    cases T' <;> simp [leT, this]
  | some T =>
    cases T' with
    | none =>
      have : T'' = none := Clo.uniq h'' (show Clo N (B ++ B') none from Neg.mono (fun e he => List.mem_append_right _ he) h') fun _ => Iff.rfl
      simp [leT, this]
    | some T' =>
      have h : Cl N B T := h
      have h' : Cl N B' T' := h'
      constructor
      · intro l
        have l : Le T' T := l
        refine Clo.uniq h'' (show Clo N (B ++ B') (some T) from ⟨h.refl, h.dom, h.tri, fun x y c hc => ?_, fun x y w e => (h.way x y w e).mono fun e he => List.mem_append_left _ he⟩) fun _ => Iff.rfl
        rcases List.mem_append.mp hc with hc | hc
        · exact h.edge _ _ _ hc
        · obtain ⟨t, e, l1⟩ := h'.edge _ _ _ hc
          obtain ⟨u, e', l2⟩ := l _ _ _ e
          exact ⟨u, e', by omega⟩
      · intro e
        rw [e] at h''
        have h'' : Cl N (B ++ B') T := h''
        intro x y w q
        exact h''.le ((h'.way _ _ _ q).mono fun e he => List.mem_append_right _ he) (h'.dom _ _ _ q).1
theorem le_of_sub {N : List α} {B B' : List (Bd α)} {T T' : Option (Tb α)} (h : Clo N B T) (h' : Clo N B' T') (s : ∀ e, e ∈ B' → e ∈ B) : leT T T' := by
  cases T with
  | none => cases T' <;> rfl
  | some T =>
    cases T' with
    | none => exact absurd (Neg.mono s h') (Cl.noneg h)
    | some T' =>
      have h : Cl N B T := h
      have h' : Cl N B' T' := h'
      intro x y w e
      exact h'.sub h s e
theorem leT_refl (T : Option (Tb α)) : leT T T := by
  cases T with
  | none => rfl
  | some T => exact Le.refl T
/-- both sides of a question have no common point -/
theorem sides_neg {N : List α} {B B' : List (Bd α)} {T : Option (Tb α)} {i j : α} {c : Int} (h : Clo N (B ++ [(i, j, c)] ++ (B' ++ [(j, i, -c - 1)])) T) : T = none := by
  cases T with
  | none => rfl
  | some T =>
    have h : Cl N _ T := h
    refine absurd ⟨i, c + (-c - 1), ?_, by omega⟩ h.noneg
    refine (Way.one (y := j) ?_).trans (Way.one ?_)
    · exact List.mem_append_left _ (List.mem_append_right _ (List.mem_singleton.mpr rfl))
    · exact List.mem_append_right _ (List.mem_append_right _ (List.mem_singleton.mpr rfl))

/-- v x: as much above j as can be, or far above -/
def reach (T : Tb α) (z j : α) (far : Int) (x : α) : Int :=
  match T x j with
  | some t => (0 - (T z j).getD 0) + t
  | none => (0 - (T z x).getD 0) + far
theorem reach_zero {N : List α} {B : List (Bd α)} {T : Tb α} {z j : α} {far : Int} (h : Cl N B T) (hz : ∀ x, x ∈ N → ∃ t, T z x = some t ∧ t ≤ 0) (hj : j ∈ N) : reach T z j far z = 0 := by
  obtain ⟨t, e, _⟩ := hz j hj
  unfold reach
  rw [e]
  simp
  omega
theorem reach_nn {N : List α} {B : List (Bd α)} {T : Tb α} {z j x : α} {far m : Int} (h : Cl N B T) (hz : ∀ x, x ∈ N → ∃ t, T z x = some t ∧ t ≤ 0) (hj : j ∈ N) (hx : x ∈ N) (hf : 0 ≤ far) : 0 ≤ reach T z j far x := by
  obtain ⟨t, e, l⟩ := hz j hj
  obtain ⟨u, e2, l2⟩ := hz x hx
  unfold reach
  cases q : T x j with
  | none => simp [e2]; omega
  | some a =>
    obtain ⟨d, e3, l3⟩ := h.tri _ _ _ _ _ e2 q
    rw [e] at e3; cases e3
    simp [e]; omega
theorem reach_in {N : List α} {B : List (Bd α)} {T : Tb α} {z j x y : α} {far m c : Int} (h : Cl N B T) (hz : ∀ x, x ∈ N → ∃ t, T z x = some t ∧ t ≤ 0) (hj : j ∈ N) (hb : Bnd T m) (hf : 4 * m ≤ far) (hc : (x, y, c) ∈ B) :
    reach T z j far x - reach T z j far y ≤ c := by
  obtain ⟨t, e, l⟩ := h.edge _ _ _ hc
  obtain ⟨hx, hy⟩ := h.dom _ _ _ e
  obtain ⟨tj, ej, lj⟩ := hz j hj
  obtain ⟨tx, ex, lx⟩ := hz x hx
  obtain ⟨ty, ey, ly⟩ := hz y hy
  unfold reach
  have b1 := hb _ _ _ e
  have b2 := hb _ _ _ ej
  have b3 := hb _ _ _ ex
  have b4 := hb _ _ _ ey
  cases q : T x j with
  | some a =>
    have b5 := hb _ _ _ q
    cases q' : T y j with
    | some b =>
      obtain ⟨d, e3, l3⟩ := h.tri _ _ _ _ _ e q'
      rw [q] at e3; cases e3
      simp [ej]; omega
    | none => simp [ej, ey]; omega
  | none =>
    cases q' : T y j with
    | some b =>
      obtain ⟨d, e3, l3⟩ := h.tri _ _ _ _ _ e q'
      rw [q] at e3; cases e3
    | none =>
      obtain ⟨d, e3, l3⟩ := h.tri _ _ _ _ _ ex e
      rw [ey] at e3; cases e3
      simp [ex, ey]; omega
end
end KM
set_option Elab.async false
set_option linter.all false
set_option maxRecDepth 100000
set_option maxHeartbeats 4000000
namespace KR
open PySem PySem.Spec PyProof.Rows L2

theorem ift {c : Bool} {A B : Prop} (hc : c = true) (h : A) : if c = true then A else B := by
  rw [if_pos hc]; exact h
theorem iff0 {c : Bool} {A B : Prop} (hc : c = false) (h : B) : if c = true then A else B := by
  rw [hc, if_neg Bool.false_ne_true]; exact h
theorem if2 {c : Bool} {A B : Prop} (h1 : c = true → A) (h2 : c = false → B) : if c = true then A else B := by
  cases c with
  | true => exact ift rfl (h1 rfl)
  | false => exact iff0 rfl (h2 rfl)

/-- a def of the module by its name -/
def Fd (P : Program) (w : World) (K : PySem.W.Frag) (mg : Str → Option Value) (base : Heap) (CX : CXT) (k : Nat) (x : Str) (sp : Sp) : Prop :=
  ∃ f : Addr, mg x = some (.ref f) ∧ PySem.W.keepIn K (.ref f) = true ∧ FnR P w K mg base CX k f sp
/-- a method of the class at C -/
def Md (P : Program) (w : World) (K : PySem.W.Frag) (mg : Str → Option Value) (base : Heap) (CX : CXT) (k : Nat) (C : Addr) (m : Str) (sp : Sp) : Prop :=
  ∃ f : Addr, Meth K C m f ∧ FnR P w K mg base CX k f sp
def tCR (sp : Sp) (E : XK) (t : TA) : TE := fun σ H Q => t σ H fun vs H1 => sp vs H1 Q E
section
variable {P : Program} {w : World} {K : PySem.W.Frag} {mg : Str → Option Value} {base : Heap} {CX : CXT} {k : Nat} {sp : Sp} {C : Addr} {x m : Str}
theorem FnR.up {f : Addr} (F : FnR P w K mg base CX0 k f sp) : FnR P w K mg base CX k f sp := fun A outer s H us vs Q E hr e0 r h =>
  codeAny_mono (F A outer s H us vs Q E hr e0 r h) fun r s' hq => by
    cases r with
    | error e => exact False.elim hq
    | ok fl =>
      cases fl with
      | ret u => exact hq
      | next => exact hq
      | brk => exact hq
      | cont => exact hq
theorem Fd.up (F : Fd P w K mg base CX0 k x sp) : Fd P w K mg base CX k x sp := by
  obtain ⟨f, a, b, h⟩ := F
  exact ⟨f, a, b, FnR.up h⟩
theorem Md.up (F : Md P w K mg base CX0 k C m sp) : Md P w K mg base CX k C m sp := by
  obtain ⟨f, a, h⟩ := F
  exact ⟨f, a, FnR.up h⟩
end
section
variable {X : Cx} {CX : CXT} {k : Nat} {C : Addr} {sp : Sp} {E : XK} {x m : Str} {e o : Expr} {es : List Expr} {ta te : TE} {t : TA} {p pos apos : Pos}
/-- x(e, ..) -/
theorem pe_d (F : Fd X.prog X.w X.K X.mg X.base CX k x sp) (hr : Room k X.A) (hx : Passes CX X E) (ha : PA X (e :: es) t) (hg : Gl X x := by rfl) (hdb : (x == ("__debug__" : Str)) = false := by decide)
    (he : starEach (e :: es) X.env = (false, eval e X.env) :: starEach es X.env := by rfl) (hpl : (backTo pos (starEach es X.env)).any (·.1) = false := by rfl) :
    PE X (.Call (.Name x p) (e :: es) [] pos) (tCR sp E t) := by
  refine ⟨fun pins s σ H Q I h => ?_⟩
  obtain ⟨f, hm, hk, hF⟩ := F
  refine wpAny_Call_Name_kw (ld_glob I hg hm ?_ hdb)
  refine PySem.W.callWith_K (h₀ := X.base) I.ok.mod.kin hk (thn (ha.run pos pins s σ H _ I h) fun us s1 ⟨vs, H1, I1, r, q⟩ => ⟨I1.kIn, ?_⟩) he hpl
  exact wpAny_call (run_fnR hF hr hx I1 r q)
/-- o.m(e, ..) -/
theorem pe_m {pl : Sem Bool} (he : PE X o ta) (c : Cls X.K C) (F : Md X.prog X.w X.K X.mg X.base CX k C m sp) (hr : Room k X.A) (hx : Passes CX X E) (ha : PA X (e :: es) t)
    (hst : starEach (e :: es) X.env = (false, eval e X.env) :: starEach es X.env := by rfl) (hpl : (backTo pos (starEach es X.env)).any (·.1) = false := by rfl)
    (ht : eval (.Call (.Attribute o m apos) (e :: es) [] pos) X.env = (do
      let ov ← eval o X.env
      standAt apos.atName
      let (f, first) ← holding [ov] (getMethod ov m pl)
      callWith pos f first (backTo pos (starEach (e :: es) X.env)) (backToKw pos (keywordEach [] X.env))) := by rfl) :
    PE X (.Call (.Attribute o m apos) (e :: es) [] pos) (tMethR C m sp E ta t) := by
  refine ⟨fun pins s σ H Q I h => ?_⟩
  obtain ⟨g, hm, hF⟩ := F
  exact (pe_methR he c hm hF hr hx ha hst hpl ht).run pins s σ H Q I h
/-- o.m() -/
theorem pe_m0 {pl : Sem Bool} (he : PE X o ta) (c : Cls X.K C) (F : Md X.prog X.w X.K X.mg X.base CX k C m sp) (hr : Room k X.A) (hx : Passes CX X E)
    (ht : eval (.Call (.Attribute o m apos) [] [] pos) X.env = (do
      let ov ← eval o X.env
      standAt apos.atName
      let (f, first) ← holding [ov] (getMethod ov m pl)
      callWith pos f first (backTo pos (starEach [] X.env)) (backToKw pos (keywordEach [] X.env))) := by rfl) :
    PE X (.Call (.Attribute o m apos) [] [] pos) (tMethR C m sp E ta tNil) := by
  refine ⟨fun pins s σ H Q I h => ?_⟩
  obtain ⟨g, hm, hF⟩ := F
  refine PySem.W.methodCall_KW (pl := pl) (thn (he.run pins s σ H _ I h) fun u s1 ⟨x, H1, I1, rx, a, dx, fs, ex, ea, l, q⟩ => ?_) ht
  subst ex
  obtain rfl : u = Value.ref a := rx
  refine getmeth_ok I1 ea c hm l ?_
  exact PySem.W.callWith_K0 (first := [.ref a]) I1.kIn hm.kp (wpAny_call (run_fnR (us := [.ref a]) (vs := [.ref a]) hF hr hx I1 (.cons rfl .nil) q))
end
end KR
set_option Elab.async false
set_option linter.all false
set_option maxRecDepth 100000
set_option maxHeartbeats 4000000
namespace KR
open PySem PySem.Spec PyProof.Rows L2
section
variable {X : Cx}
/-- a statement and the rest, a word between them -/
def tCt (t u : TS) : TS := fun D σ H => ∃ Mid : L2.St → Hp → Prop, t { D with nx := Mid } σ H ∧ ∀ σ' H', Mid σ' H' → u D σ' H'
theorem pss_ct {st : Stmt} {rest : List Stmt} {t u : TS} (h1 : PS X st t) (h2 : PSs X rest u) : PSs X (st :: rest) (tCt t u) := by
  refine ⟨fun pins s σ H D I h => ?_⟩
  obtain ⟨Mid, ht, hu⟩ := h
  refine wpAny_execs_cons (thn (h1.run pins s σ H { D with nx := Mid } I ht) fun f s1 q => ?_)
  cases f with
  | next =>
    obtain ⟨σ1, H1, I1, m⟩ := q
    exact h2.run pins s1 σ1 H1 D I1 (hu σ1 H1 m)
  | ret v => exact q
  | brk => exact q
  | cont => exact q
end
/-- an expression whose value is known and that makes nothing -/
def Is (te : TE) (σ : L2.St) (v : V) : Prop := ∀ (H : Hp) (Q : VK), Q v H → te σ H Q
section
variable {σ : L2.St} {H : Hp} {v : V} {i : Nat} {t1 t2 td : TE} {x y : Str} {a : Addr} {kvs : List (List Key × V)} {Q : VK}
theorem is_var (h : σ[i]? = some (some v)) : Is (tVar i) σ v := fun _ _ q => ⟨v, h, q⟩
theorem is_c : Is (tC v) σ v := fun _ _ q => q
theorem same_new {p : Addr} {o : HO} (h : H p = none) : Same H (upd H p o) := fun b u e => by rw [upd_ne (ne_of_none e h)]; exact e
theorem same_free {H' : Hp} {p : Addr} (s : Same H H') (h : H' p = none) : H p = none := s.free h
/-- an object that was made on the way is changed -/
theorem same_mut {H' : Hp} {p : Addr} {o : HO} (s : Same H H') (h : H p = none) : Same H (upd H' p o) := fun b u e => by rw [upd_ne (ne_of_none e h)]; exact s b u e
theorem two_ok : (2 : Nat) ≤ sizeLine := by rw [sizeLine_eq]; decide
theorem three_ok : (3 : Nat) ≤ sizeLine := by rw [sizeLine_eq]; decide
/-- (x, y) -/
theorem r_pair {v1 v2 : V} (h1 : Is t1 σ v1) (h2 : Is t2 σ v2) (k : ∀ p, H p = none → Q (.ref p) (upd H p (.tup [v1, v2]))) : tTup (tCons t1 (tCons t2 tNil)) σ H Q :=
  h1 _ _ (h2 _ _ ⟨two_ok, k⟩)
theorem kv2 (x y : Str) : [V.str x, V.str y] = [Sum.inr x, Sum.inr y].map kV := rfl
/-- (x, y) in d -/
theorem r_in (hT : H a = some (.dT kvs)) (k : ∀ H', Same H H' → Q (.bl (valV kvs [.inr x, .inr y]).isSome) H')
    (h1 : Is t1 σ (.str x) := by first | exact is_var rfl | exact is_c) (h2 : Is t2 σ (.str y) := by first | exact is_var rfl | exact is_c) (hd : Is td σ (.ref a) := by exact is_var rfl) :
    tDIn (tTup (tCons t1 (tCons t2 tNil))) td σ H Q := by
  refine r_pair h1 h2 fun p hp => hd _ _ ⟨a, _, rfl, ?_, k _ (same_new hp)⟩
  exact DGet.t (same_new hp _ _ hT) (by rw [upd_same, kv2])
theorem r_notin (hT : H a = some (.dT kvs)) (k : ∀ H', Same H H' → Q (.bl (!(valV kvs [.inr x, .inr y]).isSome)) H')
    (h1 : Is t1 σ (.str x) := by first | exact is_var rfl | exact is_c) (h2 : Is t2 σ (.str y) := by first | exact is_var rfl | exact is_c) (hd : Is td σ (.ref a) := by exact is_var rfl) :
    tDNotIn (tTup (tCons t1 (tCons t2 tNil))) td σ H Q := by
  refine r_pair h1 h2 fun p hp => hd _ _ ⟨a, _, rfl, ?_, k _ (same_new hp)⟩
  exact DGet.t (same_new hp _ _ hT) (by rw [upd_same, kv2])
/-- d[x, y] -/
theorem r_get (hT : H a = some (.dT kvs)) (hv : valV kvs [.inr x, .inr y] = some v) (k : ∀ H', Same H H' → Q v H')
    (h1 : Is t1 σ (.str x) := by first | exact is_var rfl | exact is_c) (h2 : Is t2 σ (.str y) := by first | exact is_var rfl | exact is_c) (hd : Is td σ (.ref a) := by exact is_var rfl) :
    tDGet td (tTup (tCons t1 (tCons t2 tNil))) σ H Q := by
  refine hd _ _ (r_pair h1 h2 fun p hp => ⟨a, v, rfl, ?_, k _ (same_new hp)⟩)
  rw [← hv]
  exact DGet.t (same_new hp _ _ hT) (by rw [upd_same, kv2])
/-- d.get((x, y)) -/
theorem r_get1 (hT : H a = some (.dT kvs)) (k : ∀ H', Same H H' → Q ((valV kvs [.inr x, .inr y]).getD .non) H')
    (h1 : Is t1 σ (.str x) := by first | exact is_var rfl | exact is_c) (h2 : Is t2 σ (.str y) := by first | exact is_var rfl | exact is_c) (hd : Is td σ (.ref a) := by exact is_var rfl) :
    tDGet1 td (tTup (tCons t1 (tCons t2 tNil))) σ H Q := by
  refine hd _ _ ⟨a, rfl, .inr ⟨kvs, .inl hT⟩, r_pair h1 h2 fun p hp => ⟨_, ?_, k _ (same_new hp)⟩⟩
  exact DGet.t (same_new hp _ _ hT) (by rw [upd_same, kv2])
/-- d[x, y] = e, e known -/
theorem r_put {tv : TE} {D : Ends} (hT : H a = some (.dT kvs)) (hl : kvs.length ≤ 1000) (k : ∀ H1, Same H H1 → D.nx σ (upd H1 a (.dT (putK kvs [.inr x, .inr y] v))))
    (h1 : Is t1 σ (.str x) := by first | exact is_var rfl | exact is_c) (h2 : Is t2 σ (.str y) := by first | exact is_var rfl | exact is_c) (hd : Is td σ (.ref a) := by exact is_var rfl) (hv : Is tv σ v := by first | exact is_var rfl | exact is_c) :
    sDPut td (tTup (tCons t1 (tCons t2 tNil))) tv D σ H := by
  refine hv _ _ (hd _ _ (r_pair h1 h2 fun p hp => ⟨a, _, rfl, DPut.t (k := [Sum.inr x, Sum.inr y]) (same_new hp _ _ hT) (by rw [upd_same, kv2]) (small1000 hl), k _ (same_new hp)⟩))
end
section
variable {c t u : TT} {ts us : TS} {te ta tb : TE} {g : TG} {r : R2} {σ : L2.St} {H : Hp} {D : Ends} {Q : VK} {R : Bool → Hp → Prop}
theorem u_if (h : c σ H fun b H1 => if b = true then ts D σ H1 else us D σ H1) : tIfS c ts us D σ H := h
theorem u_and (h : t σ H fun b H1 => if b = true then u σ H1 R else R false H1) : tAnd t u σ H R := h
theorem u_or (h : t σ H fun b H1 => if b = true then R true H1 else u σ H1 R) : tOr t u σ H R := h
theorem u_not (h : t σ H fun b H1 => R (!b) H1) : tNot t σ H R := h
theorem u_B (h : te σ H fun x H1 => ∃ c, x = .bl c ∧ R c H1) : tB te σ H R := h
theorem u_T (h : te σ H fun x H1 => ∃ c, x = .bl c ∧ R c H1) : tTest te σ H R := h
theorem u_asg (h : te σ H fun x H1 => g x σ H1 D.nx) : tAsg te g D σ H := h
theorem u_ret (h : te σ H D.rt) : tRet te D σ H := h
theorem u_op (h : ta σ H fun x H1 => tb σ H1 fun y H2 => r x y H2 Q) : tOp r ta tb σ H Q := h
theorem u_ie (h : c σ H fun b H1 => if b = true then ta σ H1 Q else tb σ H1 Q) : tIf c ta tb σ H Q := h
theorem u_seq (h : ts { D with nx := us D } σ H) : tSeq ts us D σ H := h
theorem u_drop (h : te σ H fun _ H1 => D.nx σ H1) : tDrop te D σ H := h
end
end KR
set_option Elab.async false
set_option linter.all false
set_option maxRecDepth 100000
set_option maxHeartbeats 4000000
namespace KD
open PySem PySem.Spec PyProof.Rows L2 KR
abbrev Tb := KM.Tb Str
abbrev Bd := KM.Bd Str
abbrev ky (x y : Str) : List Key := [.inr x, .inr y]
theorem ky_inj {x y x' y' : Str} (e : ky x y = ky x' y') : x = x' ∧ y = y' := by
  injection e with e1 e2
  injection e2 with e2 _
  injection e1 with e1
  injection e2 with e2
  exact ⟨e1, e2⟩
/-- the pairs of a dict are a table's -/
structure Rep (N : List Str) (kvs : List (List Key × V)) (T : Tb) : Prop where
  nd : (kvs.map (·.1)).Nodup
  ent : ∀ p ∈ kvs, ∃ x y i, x ∈ N ∧ y ∈ N ∧ p = (ky x y, V.int i)
  val : ∀ x y, valV kvs (ky x y) = (T x y).map V.int
theorem Rep.len {N : List Str} {kvs : List (List Key × V)} {T : Tb} (r : Rep N kvs T) (h : N.length ≤ 7) : kvs.length ≤ 49 := by
  have h1 : (kvs.map (·.1)).length ≤ (N.flatMap fun x => N.map fun y => ky x y).length := by
    refine List.Nodup.length_le_of_subset r.nd fun k hk => ?_
    obtain ⟨p, hp, rfl⟩ := List.mem_map.mp hk
    obtain ⟨x, y, i, hx, hy, e⟩ := r.ent p hp
    rw [e]
    exact List.mem_flatMap.mpr ⟨x, hx, List.mem_map.mpr ⟨y, hy, rfl⟩⟩
  rw [List.length_map, List.length_flatMap] at h1
  have h2 : ∀ l : List Str, (l.map fun x => (N.map fun y => ky x y).length).sum = l.length * N.length := fun l => by
    induction l with
    | nil => simp
    | cons a r ih =>
      rw [List.map_cons, List.sum_cons, ih, List.length_map, List.length_cons, Nat.add_mul, Nat.one_mul, Nat.add_comm]
  rw [h2 N] at h1
  have h3 : N.length * N.length ≤ 7 * 7 := Nat.mul_le_mul h h
  omega
theorem keys_putK {kvs : List (List Key × V)} {k : List Key} {v : V} (h : (kvs.map (·.1)).Nodup) : ((putK kvs k v).map (·.1)).Nodup := by
  cases e : valV kvs k with
  | none => exact nd_putK v h e
  | some u =>
    unfold putK
    have q : (kvs.any fun kv => decide (kv.1 = k)) = true := by rw [valV_any, e]; rfl
    rw [if_pos q, List.map_map]
    have e2 : ((·.1) ∘ fun kv : List Key × V => if kv.1 = k then (kv.1, v) else kv) = (·.1) := by
      funext kv
      show (if kv.1 = k then (kv.1, v) else kv).1 = kv.1
      split <;> rfl
    rw [e2]; exact h
theorem mem_putK {kvs : List (List Key × V)} {k : List Key} {v : V} {p : List Key × V} (h : p ∈ putK kvs k v) : p ∈ kvs ∨ p = (k, v) := by
  unfold putK at h
  split at h
  · obtain ⟨q, hq, e⟩ := List.mem_map.mp h
    by_cases hk : q.1 = k
    · rw [if_pos hk, hk] at e; exact .inr e.symm
    · rw [if_neg hk] at e; rw [← e]; exact .inl hq
  · rcases List.mem_append.mp h with h | h
    · exact .inl h
    · exact .inr (List.mem_singleton.mp h)
theorem Rep.put {N : List Str} {kvs : List (List Key × V)} {T : Tb} {x y : Str} {w : Int} (r : Rep N kvs T) (hx : x ∈ N) (hy : y ∈ N) : Rep N (putK kvs (ky x y) (.int w)) (KM.setT T x y w) where
  nd := keys_putK r.nd
  ent := fun p hp => by
    rcases mem_putK hp with h | h
    · exact r.ent p h
    · exact ⟨x, y, w, hx, hy, h⟩
  val := fun a b => by
    rw [valV_put]
    unfold KM.setT
    by_cases e : a = x ∧ b = y
    · rw [if_pos e, e.1, e.2, if_pos rfl]; rfl
    · rw [if_neg e, if_neg (fun q => e (ky_inj q))]; exact r.val a b
theorem Rep.nil (N : List Str) : Rep N [] (fun _ _ => none) where
  nd := List.nodup_nil
  ent := fun p hp => by cases hp
  val := fun _ _ => rfl
theorem Rep.in_ {N : List Str} {kvs : List (List Key × V)} {T : Tb} (r : Rep N kvs T) (x y : Str) : (valV kvs (ky x y)).isSome = (T x y).isSome := by
  rw [r.val]; cases T x y <;> rfl
/-- what a name stands for: no table, or a dict that holds one -/
def TabAt (H : Hp) (v : V) (N : List Str) : Option Tb → Prop
  | none => v = .non
  | some T => ∃ d kvs, v = .ref d ∧ H d = some (.dT kvs) ∧ Rep N kvs T
theorem TabAt.mono {H H' : Hp} {v : V} {N : List Str} : ∀ {T : Option Tb}, TabAt H v N T → Same H H' → TabAt H' v N T
  | none, h, _ => h
  | some _, ⟨d, kvs, e, h, r⟩, s => ⟨d, kvs, e, s _ _ h, r⟩
/-- a tuple of names -/
abbrev NmAt (H : Hp) (a : Addr) (N : List Str) : Prop := H a = some (.tup (N.map V.str))
/-- a bound -/
abbrev BdAt (H : Hp) (a : Addr) (e : Bd) : Prop := H a = some (.tup [.str e.1, .str e.2.1, .int e.2.2])
def BdsAt (H : Hp) (as : List Addr) (es : List Bd) : Prop := Paired (BdAt H) as es
theorem BdsAt.mono {H H' : Hp} (s : Same H H') : ∀ {as : List Addr} {es : List Bd}, BdsAt H as es → BdsAt H' as es
  | _, _, .nil => .nil
  | _, _, .cons h t => .cons (s _ _ h) (BdsAt.mono s t)
theorem BdsAt.len {H : Hp} : ∀ {as : List Addr} {es : List Bd}, BdsAt H as es → as.length = es.length
  | _, _, .nil => rfl
  | _, _, .cons _ t => by rw [List.length_cons, List.length_cons, BdsAt.len t]
theorem BdsAt.get {H : Hp} : ∀ {as : List Addr} {es : List Bd} {i : Nat} {a : Addr}, BdsAt H as es → as[i]? = some a → ∃ e, es[i]? = some e ∧ BdAt H a e
  | _, _, 0, _, .cons h _, e => by cases e; exact ⟨_, rfl, h⟩
  | _, _, i + 1, _, .cons _ t, e => BdsAt.get (i := i) t e
theorem BdsAt.app {H : Hp} : ∀ {as bs : List Addr} {es fs : List Bd}, BdsAt H as es → BdsAt H bs fs → BdsAt H (as ++ bs) (es ++ fs)
  | _, _, _, _, .nil, s => s
  | _, _, _, _, .cons h t, s => .cons h (BdsAt.app t s)
abbrev FnDf (K : PySem.W.Frag) (x q : Str) (st : Stmt) (f : Addr) (fd : FuncData) : Prop := FunD K x q (defArgs st) (defBody st) (defScope st) [] [] f fd
theorem get_map {xs : List Str} {i : Nat} {v : V} (h : (xs.map V.str)[i]? = some v) : ∃ x, xs[i]? = some x ∧ v = .str x := by
  rw [List.getElem?_map] at h
  cases e : xs[i]? with
  | none => rw [e] at h; cases h
  | some x => rw [e] at h; exact ⟨x, rfl, (Option.some.inj h).symm⟩
theorem get_ref {xs : List Addr} {i : Nat} {v : V} (h : (xs.map V.ref)[i]? = some v) : ∃ x, xs[i]? = some x ∧ v = .ref x := by
  rw [List.getElem?_map] at h
  cases e : xs[i]? with
  | none => rw [e] at h; cases h
  | some x => rw [e] at h; exact ⟨x, rfl, (Option.some.inj h).symm⟩
theorem mem_get {α : Type} {xs : List α} {i : Nat} {x : α} (h : xs[i]? = some x) : x ∈ xs := List.mem_of_getElem? h
theorem take_get {α : Type} {xs : List α} {i : Nat} {x : α} (h : xs[i]? = some x) : xs.take (i + 1) = xs.take i ++ [x] := by
  rw [List.take_add_one, h]; rfl
/-- a name that comes later is none of those ahead -/
theorem take_not {xs : List Str} (nd : xs.Nodup) {i : Nat} {x : Str} (h : xs[i]? = some x) : x ∉ xs.take i := fun hm => by
  obtain ⟨j, hj⟩ := List.getElem?_of_mem hm
  rw [List.getElem?_take] at hj
  split at hj
  · rename_i hlt
    have := nd_ix nd h hj
    omega
  · cases hj
end KD
set_option Elab.async false
set_option linter.all false
set_option maxRecDepth 100000
set_option maxHeartbeats 4000000
namespace KD
open PySem PySem.Spec PyProof.Rows L2 KT KR
def spTight : Sp := fun vs H Q _ => ∃ tv na ba N T i j c, vs = [tv, .ref na, .ref ba] ∧ TabAt H tv N T ∧ NmAt H na N ∧ BdAt H ba (i, j, c) ∧ N.Nodup ∧ N.length ≤ 7 ∧ i ∈ N ∧ j ∈ N ∧
  ∀ v H', Same H H' → TabAt H' v N (KM.tight N T (i, j, c)) → Q v H'
/-- the new table's entry -/
theorem tight_new {N : List Str} {T : Tb} {i j : Str} {c : Int} (h1 : ∀ t, T j i = some t → ¬ t + c < 0) (h2 : ∀ u, T i j = some u → ¬ u ≤ c) :
    KM.tight N (some T) (i, j, c) = some (fun x y => if x ∈ N ∧ y ∈ N then KM.bestT T i j c x y else none) := by
  unfold KM.tight
  dsimp only
  cases e : T j i with
  | some t =>
    dsimp only
    rw [if_neg (h1 t e)]
    cases e2 : T i j with
    | some u => dsimp only; rw [if_neg (h2 u e2)]
    | none => rfl
  | none =>
    dsimp only
    cases e2 : T i j with
    | some u => dsimp only; rw [if_neg (h2 u e2)]
    | none => rfl
/-- what is known of the new dict behind a part of the pairs -/
def Part (N : List Str) (B : Tb) (D : Str → Str → Prop) (kvs : List (List Key × V)) : Prop := ∃ T', Rep N kvs T' ∧ (∀ x y, D x y → T' x y = B x y) ∧ ∀ x y, ¬ D x y → T' x y = none
section
variable {P : Program} {w : World} {K : PySem.W.Frag} {mg : Str → Option Value} {base : Heap} {f : Addr} {fd : FuncData}
theorem ok_tightened (F : FnDf K "tightened" "tightened" s_tightened f fd) : FnOk P w K mg base CX0 1 f fd p_tightened spTight := by
  refine F.ok sc_tightened (fun vs H Q E h => ?_) (fun cdv A outer s H vs Q E hr h => ?_)
  · obtain ⟨tv, na, ba, N, T, i, j, c, rfl, _⟩ := h
    rfl
  · obtain ⟨tv, na, ba, N, T, i, j, c, rfl, hT, hN, hb, nd, nl, hi, hj, k⟩ := h
    have hu := hu_of hr
    have n := sc_tightened.nd
    refine ⟨_, PSs.nox (pss_cons (ps_asg (pv 2) (pg_tup rfl (pgs_cons (pg_name (i := 3) n rfl (.inl rfl)) (pgs_cons (pg_name (i := 4) n rfl (.inl rfl)) (pgs_cons (pg_name (i := 5) n rfl (.inl rfl)) pgs_nil)))))
      (pss_ct (ps_if (PW.pt (pw_or (pt_cmp (pc_isN (pv 0)) rfl) (pw_or1 (PW.pt (pw_and (pt_cmp (pc_din hu (pe_tup (pa_cons (pv 4) (pa_cons (pv 3) pa_nil))) (pv 0)) (by rfl)) (pw_and1 (pt_cmpR op_lt (pe_op op_add (pe_dget hu (pv 0) (pe_tup (pa_cons (pv 4) (pa_cons (pv 3) pa_nil))) (fun _ _ => rfl)) (pv 5)) pe_int (nomark _))))))))
        (pss_one (ps_ret pe_non))
        pss_nil)
      (pss_ct (ps_if (PW.pt (pw_and (pt_cmp (pc_din hu (pe_tup (pa_cons (pv 3) (pa_cons (pv 4) pa_nil))) (pv 0)) (by rfl)) (pw_and1 (pt_cmpR op_le (pe_dget hu (pv 0) (pe_tup (pa_cons (pv 3) (pa_cons (pv 4) pa_nil))) (fun _ _ => rfl)) (pv 5) (nomark _)))))
        (pss_one (ps_ret (pv 0)))
        pss_nil)
      (pss_cons (ps_set (i := 6) n rfl (.inl rfl) pe_dnewT)
      (pss_cons (ps_for PassesOwn.never rfl (pi_tup (pv 1)) (pg_name (i := 7) n rfl (.inl rfl))
        (pss_one (ps_for PassesOwn.never rfl (pi_tup (pv 1)) (pg_name (i := 8) n rfl (.inl rfl))
            (pss_cons (ps_set (i := 9) n rfl (.inl rfl) (pe_dget1 hu (pv 0) (pe_tup (pa_cons (pv 7) (pa_cons (pv 8) pa_nil))) ⟨rfl, rfl, rfl, rfl⟩))
              (pss_ct (ps_if (PW.pt (pw_and (pt_cmp (pc_din hu (pe_tup (pa_cons (pv 7) (pa_cons (pv 3) pa_nil))) (pv 0)) (by rfl)) (pw_and1 (pt_cmp (pc_din hu (pe_tup (pa_cons (pv 4) (pa_cons (pv 8) pa_nil))) (pv 0)) (by rfl)))))
                (pss_cons (ps_set (i := 10) n rfl (.inl rfl) (pe_op op_add (pe_op op_add (pe_dget hu (pv 0) (pe_tup (pa_cons (pv 7) (pa_cons (pv 3) pa_nil))) (fun _ _ => rfl)) (pv 5)) (pe_dget hu (pv 0) (pe_tup (pa_cons (pv 4) (pa_cons (pv 8) pa_nil))) (fun _ _ => rfl))))
                  (pss_one (ps_set (i := 9) n rfl (.inl rfl) (pe_ifExp (PW.pt (pw_or (pt_cmp (pc_isN (pv 9)) rfl) (pw_or1 (pt_cmpR op_lt (pv 10) (pv 9) (nomark _))))) (pv 10) (pv 9)))))
                pss_nil)
              (pss_one (ps_if (pt_cmp (pc_notN (pv 9)) rfl)
                (pss_one (ps_dput hu (pv 6) (pe_tup (pa_cons (pv 7) (pa_cons (pv 8) pa_nil))) (pv 9) rfl))
                pss_nil)))))))
      (pss_one (ps_ret (pv 6)))))))), ?_⟩
    refine ⟨_, rfl, ba, _, rfl, SqT.of hb, rfl, _, _, rfl, _, _, rfl, _, _, rfl, rfl, ?_⟩
    cases T with
    | none =>
      obtain rfl : tv = .non := hT
      refine ⟨fun _ _ => False, ⟨_, rfl, _, rfl, ift rfl (ift rfl (k _ _ (Same.refl _) rfl))⟩, fun _ _ z => z.elim⟩
    | some T =>
      obtain ⟨d, kvs, rfl, hd, R⟩ := hT
      refine ⟨fun σ' H' => σ' = [some (.ref d), some (.ref na), some (.ref ba), some (.str i), some (.str j), some (.int c), none, none, none, none, none] ∧ Same H H' ∧ ∀ t, T j i = some t → ¬ t + c < 0, ?_, ?_⟩
      · -- table is None or (j, i) in table and table[j, i] + c < 0
        refine ⟨_, rfl, _, rfl, iff0 rfl ?_⟩
        refine u_and (u_B (r_in hd fun H1 s1 => ⟨_, rfl, ?_⟩))
        rw [R.in_]
        cases e : T j i with
        | none => exact iff0 rfl (iff0 rfl ⟨rfl, s1, fun t q => nomatch q⟩)
        | some t =>
          refine ift rfl (r_get (s1 _ _ hd) (v := .int t) (by rw [R.val, e]; rfl) fun H2 s2 => ⟨_, rfl, _, _, rfl, rfl, _, _, rfl, rfl, _, rfl, ?_⟩)
          refine if2 (fun z => ?_) (fun z => ?_)
          · have z : t + c < 0 := of_decide_eq_true z
            refine k _ _ (s1.trans s2) ?_
            unfold KM.tight
            dsimp only
            rw [e]
            dsimp only
            rw [if_pos z]
            exact rfl
          · have z : ¬ t + c < 0 := of_decide_eq_false z
            exact ⟨rfl, s1.trans s2, fun t' q => by cases q; exact z⟩
      · rintro σ1 H1 ⟨rfl, s1, h1⟩
        refine ⟨fun σ' H' => σ' = [some (.ref d), some (.ref na), some (.ref ba), some (.str i), some (.str j), some (.int c), none, none, none, none, none] ∧ Same H H' ∧ ∀ u, T i j = some u → ¬ u ≤ c, ?_, ?_⟩
        · refine u_if (u_and (u_B (r_in (s1 _ _ hd) fun H2 s2 => ⟨_, rfl, ?_⟩)))
          have s12 := s1.trans s2
          rw [R.in_]
          cases e : T i j with
          | none => exact iff0 rfl (iff0 rfl ⟨rfl, s12, fun t q => nomatch q⟩)
          | some t =>
            refine ift rfl (r_get (s12 _ _ hd) (v := .int t) (by rw [R.val, e]; rfl) fun H3 s3 => ⟨_, rfl, _, _, rfl, rfl, _, rfl, ?_⟩)
            have s13 := s12.trans s3
            refine if2 (fun z => ?_) (fun z => ?_)
            · have z : t ≤ c := of_decide_eq_true z
              refine ⟨_, rfl, k _ _ s13 ?_⟩
              have q : KM.tight N (some T) (i, j, c) = some T := by
                unfold KM.tight
                dsimp only
                cases e2 : T j i with
                | some u => dsimp only; rw [if_neg (h1 u e2), e]; dsimp only; rw [if_pos z]
                | none => dsimp only; rw [e]; dsimp only; rw [if_pos z]
              rw [q]
              exact ⟨d, kvs, rfl, s13 _ _ hd, R⟩
            · have z : ¬ t ≤ c := of_decide_eq_false z
              exact ⟨rfl, s13, fun t' q => by cases q; exact z⟩
        · rintro σ2 H2 ⟨rfl, s2, h2⟩
          have new := tight_new (N := N) h1 h2
          rw [new] at k
          generalize hB : KM.bestT T i j c = B at k
          refine fun fo hfo => ?_
          have fo0 : H fo = none := s2.free hfo
          refine ⟨_, rfl, na, rfl, ⟨_, SqT.of (same_new hfo _ _ (s2 _ _ hN))⟩, for_tup (K := K) (a := na) (xs := N.map V.str) (fun m σ' H' => ∃ x y best way kv2, σ' = [some (.ref d), some (.ref na), some (.ref ba), some (.str i), some (.str j), some (.int c), some (.ref fo), x, y, best, way] ∧
            Same H H' ∧ H' fo = some (.dT kv2) ∧ Part N B (fun x y => x ∈ N.take m ∧ y ∈ N) kv2)
            ⟨none, none, none, none, [], rfl, same_mut s2 fo0, upd_same, _, Rep.nil N, fun x y z => by simp at z, fun _ _ _ => rfl⟩ (fun m σ' H' _ ⟨_, _, _, _, _, _, s, _⟩ => SqT.of (s _ _ hN)) ?_ ?_⟩
          · rintro m x0 σ' H' hx ⟨x, y, best, way, kv2, rfl, s3, h3, p3⟩
            obtain ⟨x, hx1, rfl⟩ := get_map hx
            have hxN := mem_get hx1
            refine ⟨_, rfl, na, rfl, ⟨_, SqT.of (s3 _ _ hN)⟩, for_tup (K := K) (a := na) (xs := N.map V.str) (fun l σ' H' => ∃ y best way kv2, σ' = [some (.ref d), some (.ref na), some (.ref ba), some (.str i), some (.str j), some (.int c), some (.ref fo), some (.str x), y, best, way] ∧
              Same H H' ∧ H' fo = some (.dT kv2) ∧ Part N B (fun a b => (a ∈ N.take m ∧ b ∈ N) ∨ (a = x ∧ b ∈ N.take l)) kv2)
              ⟨y, best, way, kv2, rfl, s3, h3, ?_⟩ (fun l σ' H' _ ⟨_, _, _, _, _, s, _⟩ => SqT.of (s _ _ hN)) ?_ ?_⟩
            · obtain ⟨T', r, a, b⟩ := p3
              exact ⟨T', r, fun u v z => a u v (z.elim id fun z => by simp at z), fun u v z => b u v fun q => z (.inl q)⟩
            · rintro l y0 σ' H' hy ⟨y, best, way, kv2, rfl, s4, h4, T', r4, d4, n4⟩
              obtain ⟨y, hy1, rfl⟩ := get_map hy
              have hyN := mem_get hy1
              -- best = table.get((x, y))
              refine u_seq (u_asg (r_get1 (s4 _ _ hd) fun H5 s5 => ?_))
              have s05 := s4.trans s5
              have e5 : H5 fo = some (.dT kv2) := s5 _ _ h4
              -- the if about the way: behind it best is the new entry
              refine ⟨fun σ' H' => ∃ way, σ' = [some (.ref d), some (.ref na), some (.ref ba), some (.str i), some (.str j), some (.int c), some (.ref fo), some (.str x), some (.str y), some (((B x y).map V.int).getD .non), way] ∧ Same H H' ∧ H' fo = some (.dT kv2), ?_, ?_⟩
              · refine u_if (u_and (u_B (r_in (s05 _ _ hd) fun H6 s6 => ⟨_, rfl, ?_⟩)))
                have s06 := s05.trans s6
                rw [R.in_]
                cases e1 : T x i with
                | none =>
                  refine iff0 rfl (iff0 rfl ⟨way, ?_, s06, s6 _ _ e5⟩)
                  have : B x y = T x y := by rw [← hB]; unfold KM.bestT KM.wayT; rw [e1]
                  rw [this, R.val]; rfl
                | some a =>
                  refine ift rfl (u_B (r_in (s06 _ _ hd) fun H7 s7 => ⟨_, rfl, ?_⟩))
                  have s07 := s06.trans s7
                  rw [R.in_]
                  cases e2 : T j y with
                  | none =>
                    refine iff0 rfl ⟨way, ?_, s07, s7 _ _ (s6 _ _ e5)⟩
                    have : B x y = T x y := by rw [← hB]; unfold KM.bestT KM.wayT; rw [e1, e2]
                    rw [this, R.val]; rfl
                  | some b =>
                    refine ift rfl ?_
                    refine r_get (s07 _ _ hd) (v := .int a) (by rw [R.val, e1]; rfl) fun H8 s8 => ⟨_, rfl, _, _, rfl, rfl, ?_⟩
                    have s08 := s07.trans s8
                    refine r_get (s08 _ _ hd) (v := .int b) (by rw [R.val, e2]; rfl) fun H9 s9 => ⟨_, _, rfl, rfl, ?_⟩
                    have s09 := s08.trans s9
                    have e9 : H9 fo = some (.dT kv2) := s9 _ _ (s8 _ _ (s7 _ _ (s6 _ _ e5)))
                    have wy : KM.wayT T i j c x y = some (a + c + b) := by unfold KM.wayT; rw [e1, e2]
                    rw [R.val]
                    cases e3 : T x y with
                    | none =>
                      have : B x y = some (a + c + b) := by rw [← hB]; unfold KM.bestT; rw [wy, e3]
                      refine ⟨_, rfl, _, rfl, ift rfl (ift rfl ⟨_, rfl, some (.int (a + c + b)), ?_, s09, e9⟩)⟩
                      rw [this]; rfl
                    | some t =>
                      have : B x y = some (if a + c + b < t then a + c + b else t) := by rw [← hB]; unfold KM.bestT; rw [wy, e3]
                      refine ⟨_, rfl, _, rfl, iff0 rfl ⟨_, rfl, _, rfl, _, _, rfl, rfl, _, rfl, if2 (fun z => ?_) (fun z => ?_)⟩⟩
                      · refine ⟨_, rfl, some (.int (a + c + b)), ?_, s09, e9⟩
                        rw [this, if_pos (of_decide_eq_true z)]; rfl
                      · refine ⟨_, rfl, some (.int (a + c + b)), ?_, s09, e9⟩
                        rw [this, if_neg (of_decide_eq_false z)]; rfl
              · rintro σ6 H6 ⟨way, rfl, s6, e6⟩
                have more : ∀ a b, ((a ∈ N.take m ∧ b ∈ N) ∨ (a = x ∧ b ∈ N.take (l + 1))) ↔ (((a ∈ N.take m ∧ b ∈ N) ∨ (a = x ∧ b ∈ N.take l)) ∨ (a = x ∧ b = y)) := fun a b => by
                  rw [take_get hy1]
                  constructor
                  · rintro (h | ⟨h, h'⟩)
                    · exact .inl (.inl h)
                    · rcases List.mem_append.mp h' with h' | h'
                      · exact .inl (.inr ⟨h, h'⟩)
                      · exact .inr ⟨h, List.mem_singleton.mp h'⟩
                  · rintro ((h | ⟨h, h'⟩) | ⟨h, h'⟩)
                    · exact .inl h
                    · exact .inr ⟨h, List.mem_append_left _ h'⟩
                    · exact .inr ⟨h, List.mem_append_right _ (List.mem_singleton.mpr h')⟩
                cases e : B x y with
                | none =>
                  refine ⟨_, rfl, _, rfl, iff0 rfl ⟨_, _, _, _, rfl, s6, e6, T', r4, fun a b z => ?_, fun a b z => n4 a b fun q => z ((more a b).mpr (.inl q))⟩⟩
                  rcases (more a b).mp z with z | ⟨rfl, rfl⟩
                  · exact d4 a b z
                  · rw [e]
                    by_cases q : (a ∈ N.take m ∧ b ∈ N) ∨ (a = a ∧ b ∈ N.take l)
                    · rw [d4 _ _ q, e]
                    · exact n4 _ _ q
                | some t =>
                  refine ⟨_, rfl, _, rfl, ift rfl (r_put e6 (Nat.le_trans (r4.len nl) (by decide)) fun H7 s7 => ?_)⟩
                  refine ⟨_, _, _, _, rfl, same_mut (s6.trans s7) fo0, upd_same, _, r4.put hxN hyN, fun a b z => ?_, fun a b z => ?_⟩
                  · unfold KM.setT
                    by_cases q : a = x ∧ b = y
                    · rw [if_pos q, q.1, q.2, e]
                    · rw [if_neg q]
                      rcases (more a b).mp z with z | z
                      · exact d4 a b z
                      · exact absurd z q
                  · unfold KM.setT
                    rw [if_neg (fun q => z ((more a b).mpr (.inr q)))]
                    exact n4 a b fun q => z ((more a b).mpr (.inl q))
            · rintro σ' H' ⟨y, best, way, kv2, rfl, s4, h4, T', r4, d4, n4⟩
              rw [List.length_map, List.take_length] at d4 n4
              refine ⟨_, _, _, _, _, rfl, s4, h4, T', r4, fun a b z => d4 a b ?_, fun a b z => n4 a b fun q => z ?_⟩
              · dsimp only at z
                rw [take_get hx1] at z
                rcases List.mem_append.mp z.1 with q | q
                · exact .inl ⟨q, z.2⟩
                · exact .inr ⟨List.mem_singleton.mp q, z.2⟩
              · dsimp only
                rw [take_get hx1]
                rcases q with q | q
                · exact ⟨List.mem_append_left _ q.1, q.2⟩
                · exact ⟨List.mem_append_right _ (List.mem_singleton.mpr q.1), q.2⟩
          · rintro σ' H' ⟨x, y, best, way, kv2, rfl, s4, h4, T', r4, d4, n4⟩
            rw [List.length_map, List.take_length] at d4 n4
            refine ⟨_, rfl, k _ _ s4 ⟨fo, kv2, rfl, h4, ?_⟩⟩
            have : T' = fun x y => if x ∈ N ∧ y ∈ N then B x y else none := by
              funext a b
              by_cases q : a ∈ N ∧ b ∈ N
              · rw [if_pos q, d4 a b q]
              · rw [if_neg q, n4 a b q]
            rw [← this]
            exact r4
end
end KD
set_option Elab.async false
set_option linter.all false
set_option maxRecDepth 100000
set_option maxHeartbeats 4000000
namespace KR
open PySem PySem.Spec PyProof.Rows L2
section
variable {prog : Program} {w : World} {M : Model} {A : Around} {E : Value → Shared → Prop} {s : Shared} {K : PySem.W.Frag} {x C f : Addr} {ox : Obj} {od : Option Obj} {b tb : Value}
/-- x.__ne__ of object: the own __eq__, turned -/
theorem ne_entry {Q : Fin → Shared → Prop} (hu : A.units < cLine) (X : K.In s.heap) (I : PySem.W.InstAt s.heap x ox C od) (hs : PySem.W.findIn K (.ref C) "__eq__" = some (some (.ref f))) (hf : PySem.W.isFn K (.ref f) = true)
    (h : wpAny (model prog w) A (call (.ref f) [.ref x, b]) (fun v s' => ∃ k, v = Value.bool k ∧ Q (.done (.ret (.bool (!k)))) s') E s) : wpAny (model prog w) A (Builtin.«object.__ne__» ⟨[.ref x, b], []⟩) Q E s := by
  unfold Builtin.«object.__ne__»
  have one : wpAny (model prog w) A (callSpecialIfBound? (.ref x) (Str.ofString "__eq__") [b]) (fun r s' => ∃ k, r = some (Value.bool k) ∧ Q (.done (.ret (.bool (!k)))) s') E s :=
    PySem.W.ifBound_K X I hs hf (wpAny_mono h (fun v s' hv => by obtain ⟨k, rfl, q⟩ := hv; exact ⟨k, rfl, q⟩) fun _ _ z => z)
  repeat (first
    | with_reducible refine wpAny_cRoomFor hu ?_
    | (refine wpAny_bind (m := callSpecialIfBound? (.ref x) (Str.ofString "__eq__") [b]) (wpAny_mono one (fun r s' hr => by
          obtain ⟨k, rfl, hq⟩ := hr
          repeat (first | exact hq | exact wpAny_pure hq | (refine wpAny_bind (m := truthy (.bool _)) (wpAny_truthy_bool ?_)) | wp_step)) fun _ _ z => z))
    | wp_step)
theorem ne_special {Q : Option Value → Shared → Prop} (X : K.In s.heap) (I : PySem.W.InstAt s.heap x ox C od) (hn : PySem.W.findIn K (.ref C) "__ne__" = some (some (.builtin "object.__ne__")))
    (h : wpAny M A (call (.builtin "object.__ne__") [.ref x, b]) (fun v => Q (some v)) E s) : wpAny M A (callSpecialIfBound? (.ref x) "__ne__" [b]) Q E s := by
  simp only [callSpecialIfBound?, bindSpecialIfBound?]
  refine wpAny_holding (wpAny_bind (wpAny_bind (wpAny_bind (I.type.here ((PySem.W.looks_findIn X hn).here ?_)))))
  refine wpAny_bind (wpAny_askSetting (wpAny_ite ?_))
  have last : wpAny M A (call (.builtin "object.__ne__") ([.ref x] ++ [b]) >>= fun v => pure (some v)) Q E s := wpAny_bind (wpAny_mono h (fun v s' z => wpAny_pure z) fun _ _ z => z)
  split
  · exact wpAny_bind (wpAny_of_eq (F.cmp_object.ne.bind _) (wpAny_pure (by exact last)))
  · exact wpAny_tryCatch (wpAny_bind (wpAny_of_eq (F.cmp_object.ne.bind _) (wpAny_pure (by exact last))))
/-- x != b by the own __eq__, whatever b is -/
theorem ne_inst {Q : Value → Shared → Prop} (hu : A.units + 1 < cLine) (X : K.In s.heap) (I : PySem.W.InstAt s.heap x ox C od) (hb : PySem.W.Looks (model prog w) s.heap (typeOf b) tb) (hnf : PySem.W.notFirst K C tb = true) (hm : PySem.W.mroIn K C (.type "object") = some true)
    (hn : PySem.W.findIn K (.ref C) "__ne__" = some (some (.builtin "object.__ne__"))) (hs : PySem.W.findIn K (.ref C) "__eq__" = some (some (.ref f))) (hf : PySem.W.isFn K (.ref f) = true)
    (h : wpAny (model prog w) A.in1 (call (.ref f) [.ref x, b]) (fun v s' => ∃ k, v = Value.bool k ∧ Q (.bool (!k)) s') E s) : wpAny (model prog w) A (compareOp .NotEq (.ref x) b) Q E s := by
  have one : wpAny (model prog w) A (tryCompare (.ref x) "__ne__" b) (fun r s' => ∃ k, r = some (Value.bool (!k)) ∧ Q (.bool (!k)) s') E s := by
    unfold tryCompare
    refine wpAny_bind (ne_special X I hn (wpAny_call (codeAny_call_builtin F.cmp_object.ne.plain F.cmpEntry_ne (PySem.W.check_slot F.cmpKind_ne F.cmpSplit_ne (I.type.andThen (PySem.W.looks_mroIn X hm)) (F.cmpArgs_ne _ _)
      (ne_entry (A := A.in1) (show A.units + 1 < cLine from hu) X I hs hf (wpAny_mono h (fun v s' hv => ?_) fun _ _ z => z))))))
    obtain ⟨k, rfl, q⟩ := hv
    exact ⟨k, rfl, wpAny_pure ⟨k, rfl, q⟩⟩
  show wpAny (model prog w) A (richCompare .NotEq (.ref x) b) Q E s
  unfold richCompare
  simp only [oneThing_ref]
  refine wpAny_holding (wpAny_bind (wpAny_cRoomFor (Nat.lt_of_succ_lt hu) ?_))
  refine wpAny_bind (I.type.here (wpAny_bind (hb.here ?_)))
  split
  · rename_i q
    have e : PySem.W.subIn K tb (.ref C) = some false := by
      rcases Bool.or_eq_true_iff.mp hnf with e | e
      · rw [beq_iff_eq.mp e] at q; simp at q
      · exact beq_iff_eq.mp e
    refine wpAny_bind ((PySem.W.looks_subIn X e).here ?_)
    simp only [Bool.false_eq_true, if_false]
    refine wpAny_bind (wpAny_mono one (fun r s' z => ?_) fun _ _ e => e)
    obtain ⟨k, rfl, hq⟩ := z
    exact wpAny_pure hq
  · refine wpAny_bind (wpAny_pure ?_)
    simp only [Bool.false_eq_true, if_false]
    refine wpAny_bind (wpAny_mono one (fun r s' z => ?_) fun _ _ e => e)
    obtain ⟨k, rfl, hq⟩ := z
    exact wpAny_pure hq
/-- fillsInplaceSlot where no class has the name -/
theorem no_inplace {nm : String} {cd : ClassData} (X : K.In s.heap) (hc : PySem.W.clsIn K C = some cd) (hl : (cd.mro.all fun v => decide (PySem.W.findIn K v (dunderI nm) = some none)) = true) {Q : Bool → Shared → Prop} (h : Q false s) :
    wpAny M A (fillsInplaceSlot (.ref C) nm false) Q E s := by
  unfold fillsInplaceSlot
  refine wpAny_bind ((PySem.W.looks_clsIn X hc).andThen (f := fun cd => pure cd.mro) .now A _ E s (fun _ _ e => e) ?_)
  generalize cd.mro = l at hl
  induction l with
  | nil => exact wpAny_pure h
  | cons v r ih =>
    have hv : PySem.W.findIn K v (dunderI nm) = some none := of_decide_eq_true (Bool.and_eq_true_iff.mp (List.all_cons ▸ hl)).1
    rw [List.anyM_cons]
    refine wpAny_bind (wpAny_bind ((PySem.W.looks_findIn X hv).here ?_))
    refine wpAny_pure ?_
    simp only [Bool.false_eq_true, if_false]
    exact ih (Bool.and_eq_true_iff.mp (List.all_cons ▸ hl)).2
end
end KR
set_option Elab.async false
set_option linter.all false
set_option maxRecDepth 100000
set_option maxHeartbeats 4000000
namespace KR
open PySem PySem.Spec PyProof.Rows L2
section
variable {X : Cx} {CX : CXT} {pins : List (Addr × Obj)} {σ : L2.St} {H : Hp} {s : Shared} {a C dx g : Addr} {fs : List (Str × V)} {n : Nat} {sp : Sp} {E : XK}
theorem inst_at (I : Inv X pins σ H s) (h : H a = some (.ins C dx fs)) : ∃ od, PySem.W.InstAt s.heap a (PySem.W.instObj C dx) C (some od) := by
  obtain ⟨mA, O, _⟩ := ins_get I.hok h
  obtain ⟨od, J, _⟩ := O.look
  exact ⟨od, J⟩
theorem looks_ty {y : V} {u t : Value} (I : Inv X pins σ H s) (ry : RelV y u) (ty : TyX X.K H y t) : PySem.W.Looks (model X.prog X.w) s.heap (typeOf u) t := by
  obtain ⟨P, Z, p, _⟩ := kit_of I ry ty
  exact Z.ty _ _ I.kIn p
/-- a method of the class at C that stands for an operator -/
def Op (K : PySem.W.Frag) (C : Addr) (m : Str) (g : Addr) : Prop := PySem.W.findIn K (.ref C) m = some (some (.ref g)) ∧ PySem.W.isFn K (.ref g) = true
theorem Meth.op {K : PySem.W.Frag} {m : Str} (h : Meth K C m g) : Op K C m g := ⟨h.at_, h.fn⟩
/-- x op y by x's own def, y of a type that does not come first -/
def rCmpI (K : PySem.W.Frag) (C : Addr) (sp : Sp) (E : XK) : R2 := fun x y H Q => ∃ a dx fs tb, x = .ref a ∧ H a = some (.ins C dx fs) ∧ TyX K H y tb ∧ PySem.W.notFirst K C tb = true ∧ sp [x, y] H Q E
theorem op_cmpI {op : CmpOp} (hop : ∀ a b, compareOp op a b = richCompare op a b) (F : Md X.prog X.w X.K X.mg X.base CX n C (cmpInfo op).2.1 sp) (hr : Room n X.A) (hx : Passes CX X E) : OpR X (compareOp op) (rCmpI X.K C sp E) := by
  intro pins s σ H x y v u Q I rx ry h
  obtain ⟨a, dx, fs, tb, rfl, ha, ty, hn, q⟩ := h
  obtain ⟨g, hm, hF⟩ := F
  cases (show v = Value.ref a from rx)
  obtain ⟨od, J⟩ := inst_at I ha
  obtain ⟨m, hfr⟩ := I.fr
  rw [hop]
  refine PySem.W.cmp_K (op := op) (tb := tb) hr.units0 hfr I.ok.mod.kin J (looks_ty I ry ty) hn hm.at_ hm.fn ?_
  refine wpAny_mono (wpAny_call (run_fnR (us := [.ref a, u]) (vs := [.ref a, y]) hF hr hx I (.cons rfl (.cons ry .nil)) q)) (fun w s' z => ?_) fun _ _ x => x
  obtain ⟨z', H', I', rz, qz⟩ := z
  exact SlX.cmpback rz ⟨z', H', I', rz, qz⟩
/-- x != y by x's own __eq__ -/
def rNeI (K : PySem.W.Frag) (C : Addr) (sp : Sp) (E : XK) : R2 := fun x y H Q => ∃ a dx fs tb, x = .ref a ∧ H a = some (.ins C dx fs) ∧ TyX K H y tb ∧ PySem.W.notFirst K C tb = true ∧ sp [x, y] H (fun z H' => ∃ k, z = .bl k ∧ Q (.bl (!k)) H') E
theorem op_neI (hn : PySem.W.findIn X.K (.ref C) "__ne__" = some (some (.builtin "object.__ne__"))) (hob : PySem.W.mroIn X.K C (.type "object") = some true) (F : Md X.prog X.w X.K X.mg X.base CX n C "__eq__" sp) (hr : Room (n + 1) X.A) (hx : Passes CX X E) :
    OpR X (compareOp .NotEq) (rNeI X.K C sp E) := by
  intro pins s σ H x y v u Q I rx ry h
  obtain ⟨a, dx, fs, tb, rfl, ha, ty, hnf, q⟩ := h
  obtain ⟨g, hm, hF⟩ := F
  cases (show v = Value.ref a from rx)
  obtain ⟨od, J⟩ := inst_at I ha
  refine ne_inst (hu_of hr) I.kIn J (looks_ty I ry ty) hnf hob hn hm.at_ hm.fn ?_
  refine wpAny_mono (wpAny_call (SlX.run_at (us := [.ref a, u]) (ws := [.ref a, y]) hF hr.in1 I.env0.in1 hx I (.cons rfl (.cons ry .nil)) q)) (fun w s' z => ?_) fun _ _ x => x
  obtain ⟨z', H', I', rz, k, rfl, qz⟩ := z
  cases (show w = Value.bool k from rz)
  exact ⟨k, rfl, .bl (!k), H', I', rfl, qz⟩
/-- x op y, both of the class at C -/
def rBinI (C : Addr) (sp : Sp) (E : XK) : R2 := fun x y H Q => ∃ a dx fs b dy gs, x = .ref a ∧ y = .ref b ∧ H a = some (.ins C dx fs) ∧ H b = some (.ins C dy gs) ∧ sp [x, y] H Q E
theorem op_binI {op : Operator} (hc : PySem.W.selfFirst X.K C = true) (F : Md X.prog X.w X.K X.mg X.base CX n C (PySem.dunder op.info.2) sp) (hr : Room n X.A) (hx : Passes CX X E) : OpR X (binaryOp op) (rBinI C sp E) := by
  intro pins s σ H x y v u Q I rx ry h
  obtain ⟨a, dx, fs, b, dy, gs, rfl, rfl, ha, hb, q⟩ := h
  obtain ⟨g, hm, hF⟩ := F
  cases (show v = Value.ref a from rx)
  cases (show u = Value.ref b from ry)
  obtain ⟨od, J⟩ := inst_at I ha
  obtain ⟨od', J'⟩ := inst_at I hb
  obtain ⟨m, hfr⟩ := I.fr
  refine PySem.W.binop_K (op := op) hfr I.ok.mod.kin J J'.type hc hm.at_ hm.fn ?_
  refine wpAny_mono (wpAny_call (run_fnR (us := [.ref a, .ref b]) (vs := [.ref a, .ref b]) hF hr hx I (.cons rfl (.cons rfl .nil)) q)) (fun w s' z => ?_) fun _ _ x => x
  obtain ⟨z', H', I', rz, qz⟩ := z
  exact SlX.cmpback rz ⟨z', H', I', rz, qz⟩
theorem bin1_K {prog : Program} {w : World} {A : Around} {E : Value → Shared → Prop} {s : Shared} {K : PySem.W.Frag} {x C L f : Addr} {ox : Obj} {od : Option Obj} {nm : String} {b : Value} {Q : Value → Shared → Prop} (X : K.In s.heap) (I : PySem.W.InstAt s.heap x ox C od)
    (hb : PySem.W.Looks (model prog w) s.heap (typeOf b) (.ref C)) (hc : PySem.W.selfFirst K C = true) (hs : PySem.W.findIn K (.ref C) (PySem.dunder nm) = some (some (.ref f))) (hf : PySem.W.isFn K (.ref f) = true)
    (h : wpAny (model prog w) A (call (.ref f) [.ref x, b]) (PySem.W.CmpBack Q) E s) : wpAny (model prog w) A (binaryOp1 nm (.ref x) b) (fun r s' => ∃ v, r = some v ∧ Q v s') E s := by
  obtain ⟨cd, rest, hcd, hm⟩ := PySem.W.ksp_first hc
  unfold binaryOp1
  refine wpAny_bind (I.type.here (wpAny_bind (hb.here (wpAny_bind ((PySem.W.fills_K X hcd hm hs).here ?_)))))
  simp only [beq_self_eq_true, if_true]
  refine wpAny_bind (wpAny_pure ?_)
  simp only [Bool.and_false, Bool.false_eq_true, if_false, Bool.false_and]
  refine wpAny_bind (wpAny_pure ?_)
  simp only [Bool.false_eq_true, if_false]
  refine wpAny_bind (m := tryMethod (.ref x) _ b) ?_
  refine wpAny_mono (PySem.W.ksp_try X I hs hf h) (fun r s' z => ?_) fun _ _ z => z
  obtain ⟨v, rfl, q⟩ := z
  exact wpAny_pure ⟨v, rfl, q⟩
/-- x op= y where there is no def for it in place: x op y -/
theorem ip_binI {op : Operator} (hadd : (op == .Add) = false) (hno : ∃ cd, PySem.W.clsIn X.K C = some cd ∧ (cd.mro.all fun v => decide (PySem.W.findIn X.K v (dunderI op.info.2) = some none)) = true) (hc : PySem.W.selfFirst X.K C = true)
    (F : Md X.prog X.w X.K X.mg X.base CX n C (PySem.dunder op.info.2) sp) (hr : Room n X.A) (hx : Passes CX X E) : PIp X op (rBinI C sp E) := by
  intro pins s σ H x y v u Q I rx ry h
  obtain ⟨a, dx, fs, b, dy, gs, rfl, rfl, ha, hb, q⟩ := h
  obtain ⟨g, hm, hF⟩ := F
  obtain ⟨cd, hcd, hall⟩ := hno
  cases (show v = Value.ref a from rx)
  cases (show u = Value.ref b from ry)
  obtain ⟨od, J⟩ := inst_at I ha
  obtain ⟨od', J'⟩ := inst_at I hb
  unfold inplaceOp
  refine wpAny_holding (wpAny_bind (J.type.here (wpAny_bind ?_)))
  rw [hadd]
  refine no_inplace I.kIn hcd hall ?_
  simp only [Bool.false_eq_true, if_false]
  refine wpAny_bind (wpAny_mono (bin1_K (Q := EP X pins σ Q) (L := 0) I.kIn J J'.type hc hm.at_ hm.fn ?_) (fun r s' z => ?_) fun _ _ z => z)
  · refine wpAny_mono (wpAny_call (run_fnR (us := [.ref a, .ref b]) (vs := [.ref a, .ref b]) hF hr hx I (.cons rfl (.cons rfl .nil)) q)) (fun w s' z => ?_) fun _ _ x => x
    obtain ⟨z', H', I', rz, qz⟩ := z
    exact SlX.cmpback rz ⟨z', H', I', rz, qz⟩
  · obtain ⟨v, rfl, q⟩ := z
    exact wpAny_pure q
/-- y in x by x's own __contains__ -/
def rInI (C : Addr) (sp : Sp) (E : XK) : R2 := fun y x H Q => ∃ a dx fs, x = .ref a ∧ H a = some (.ins C dx fs) ∧ sp [x, y] H (fun z H' => ∃ k, z = .bl k ∧ Q (.bl k) H') E
theorem op_inI (F : Md X.prog X.w X.K X.mg X.base CX n C "__contains__" sp) (hr : Room n X.A) (hx : Passes CX X E) : OpR X (compareOp .In) (rInI C sp E) := by
  intro pins s σ H y x u v Q I ry rx h
  obtain ⟨a, dx, fs, rfl, ha, q⟩ := h
  obtain ⟨g, hm, hF⟩ := F
  cases (show v = Value.ref a from rx)
  obtain ⟨od, J⟩ := inst_at I ha
  obtain ⟨m, hfr⟩ := I.fr
  refine PySem.W.in_K hfr I.ok.mod.kin J hm.at_ hm.fn ?_
  refine wpAny_mono (wpAny_call (run_fnR (us := [.ref a, u]) (vs := [.ref a, y]) hF hr hx I (.cons rfl (.cons ry .nil)) q)) (fun w s' z => ?_) fun _ _ x => x
  obtain ⟨z', H', I', rz, k, rfl, qz⟩ := z
  cases (show w = Value.bool k from rz)
  exact wpAny_truthy_bool ⟨.bl k, H', I', rfl, qz⟩
/-- an instance's truth by its own __bool__ -/
def rTruI (C : Addr) (sp : Sp) (E : XK) : V → Hp → (Bool → Hp → Prop) → Prop := fun x H Q => ∃ a dx fs, x = .ref a ∧ H a = some (.ins C dx fs) ∧ sp [x] H (fun z H' => ∃ k, z = .bl k ∧ Q k H') E
theorem tru_I (F : Md X.prog X.w X.K X.mg X.base CX n C "__bool__" sp) (hr : Room n X.A) (hx : Passes CX X E) : TruR X (rTruI C sp E) := by
  intro pins s σ H x v Q I rx h
  obtain ⟨a, dx, fs, rfl, ha, q⟩ := h
  obtain ⟨g, hm, hF⟩ := F
  cases (show v = Value.ref a from rx)
  obtain ⟨od, J⟩ := inst_at I ha
  obtain ⟨m, hfr⟩ := I.fr
  refine PySem.W.truthy_K hfr I.ok.mod.kin J hm.at_ hm.fn ?_
  refine wpAny_mono (wpAny_call (run_fnR (us := [.ref a]) (vs := [.ref a]) hF hr hx I (.cons rfl .nil) q)) (fun w s' z => ?_) fun _ _ x => x
  obtain ⟨z', H', I', rz, k, rfl, qz⟩ := z
  cases (show w = Value.bool k from rz)
  exact ⟨H', I', qz⟩
/-- a value's truth as a test -/
theorem pt_tru {e : Expr} {te : TE} {r : V → Hp → (Bool → Hp → Prop) → Prop} (ht : TruR X r) (he : PE X e te) (hw : ∀ whole, isTrue e X.env whole = (do let v ← whole; standAt e.pos; holding [v] (truthy v)) := by intro _; rfl) :
    PT X e (fun σ H Q => te σ H fun x H1 => r x H1 Q) := by
  refine ⟨fun pins s σ H Q I h => ?_⟩
  exact isTrue_plain (thn (he.run pins s σ H _ I h) fun v s1 ⟨x, H1, I1, r1, q1⟩ => ht pins s1 σ H1 x v Q I1 r1 q1) (hw _)
end
end KR
set_option Elab.async false
set_option linter.all false
set_option maxRecDepth 100000
set_option maxHeartbeats 4000000
namespace KD
open PySem PySem.Spec PyProof.Rows L2 KR
/-- the heap without one address -/
def hide (D : Addr) (H : Hp) : Hp := fun b => if b = D then none else H b
theorem hide_upd {D : Addr} {H : Hp} {o : HO} : hide D (upd H D o) = hide D H := by
  funext b
  unfold hide
  by_cases e : b = D
  · rw [if_pos e, if_pos e]
  · rw [if_neg e, if_neg e, upd_ne e]
theorem hide_same {D : Addr} {H : Hp} : Same (hide D H) H := fun b u e => by
  unfold hide at e
  split at e
  · cases e
  · exact e
theorem hide_ne {D p : Addr} {H : Hp} (h : p ≠ D) : hide D H p = H p := if_neg h
theorem hide_mono {D : Addr} {H H' : Hp} (s : Same H H') : Same (hide D H) (hide D H') := fun b u e => by
  unfold hide at *
  split at e
  · cases e
  · rename_i q
    rw [if_neg q]; exact s _ _ e
theorem ne_fresh {D p : Addr} {H : Hp} {o : HO} (h : H D = some o) (hp : H p = none) : p ≠ D := fun e => by rw [e, h] at hp; cases hp
/-- an object made behind D -/
theorem hide_new {D p : Addr} {H : Hp} {o u : HO} (h : H D = some o) (hp : H p = none) : hide D (upd H p u) p = some u := by
  rw [hide_ne (ne_fresh h hp), upd_same]
theorem Paired.get {α β : Type} {F : α → β → Prop} : ∀ {l : List α} {r : List β} {i : Nat} {a : α}, Paired F l r → l[i]? = some a → ∃ b, r[i]? = some b ∧ F a b
  | _, _, 0, _, .cons h _, e => by cases e; exact ⟨_, rfl, h⟩
  | _, _, i + 1, _, .cons _ t, e => Paired.get (i := i) t e
theorem Paired.app {α β : Type} {F : α → β → Prop} : ∀ {l l' : List α} {r r' : List β}, Paired F l r → Paired F l' r' → Paired F (l ++ l') (r ++ r')
  | _, _, _, _, .nil, s => s
  | _, _, _, _, .cons h t, s => .cons h (Paired.app t s)
/-- what stands of a list comprehension behind i items -/
def LcP (D : Addr) (H0 : Hp) (R : V → Option V → Hp → Prop) (xs : List V) (i : Nat) (H : Hp) : Prop :=
  Same H0 H ∧ ∃ zs, H D = some (.lst (zs.filterMap id)) ∧ Paired (fun x z => R x z (hide D H)) (xs.take i) zs
section
variable {K : PySem.W.Frag} {a : Addr} {xs : List V} {g : TG} {tt : TT} {te : TE} {vs : List Nat} {σ : L2.St} {H0 H1 : Hp} {D : Addr} {Qd : Hp → Prop} {R : V → Option V → Hp → Prop}
theorem lcp_0 (s : Same H0 H1) (hD : H1 D = none) : LcP D H0 R xs 0 (upd H1 D (.lst [])) :=
  ⟨same_mut s (s.free hD), [], upd_same, by rw [List.take_zero]; exact .nil⟩
/-- one item -/
def LcStep (g : TG) (tt : TT) (te : TE) (vs : List Nat) (σ : L2.St) (H0 : Hp) (D : Addr) (R : V → Option V → Hp → Prop) (x : V) : Prop :=
  ∀ H acc (Ky : VK) (Kn : Hp → Prop), Same H0 H → H D = some (.lst acc) → (∀ y H4, Same H H4 → R x (some y) (hide D H4) → Ky y H4) → (∀ H3, Same H H3 → R x none (hide D H3) → Kn H3) →
    g x (wipe σ vs) H fun σ2 H2 => wipe σ2 vs = wipe σ vs ∧ tt σ2 H2 fun b H3 => if b = true then te σ2 H3 Ky else Kn H3
theorem lcp_step (mono : ∀ x z H H', Same H H' → R x z H → R x z H') (nD : H0 D = none) (hl : xs.length ≤ sizeLine) {i : Nat} {x : V} {H : Hp} (hx : xs[i]? = some x) (hs : LcStep g tt te vs σ H0 D R x) (h : LcP D H0 R xs i H) :
    g x (wipe σ vs) H fun σ2 H2 => wipe σ2 vs = wipe σ vs ∧ tt σ2 H2 fun b H3 =>
      if b = true then te σ2 H3 fun y H4 => ∃ acc, H4 D = some (.lst acc) ∧ acc.length < sizeLine ∧ LcP D H0 R xs (i + 1) (upd H4 D (.lst (acc ++ [y]))) else LcP D H0 R xs (i + 1) H3 := by
  obtain ⟨s, zs, hD, hp⟩ := h
  have hi : i < xs.length := (List.getElem?_eq_some_iff.mp hx).1
  refine hs H _ _ _ s hD (fun y H4 s4 r => ⟨_, s4 _ _ hD, ?_, same_mut (s.trans s4) nD, zs ++ [some y], ?_, ?_⟩) (fun H3 s3 r => ⟨s.trans s3, zs ++ [none], ?_, ?_⟩)
  · have h1 := List.length_filterMap_le id zs
    have h2 := hp.length
    rw [List.length_take] at h2
    omega
  · rw [upd_same, List.filterMap_append]; rfl
  · rw [take_get hx, hide_upd]
    exact Paired.snoc (Paired.mono (fun x z q => mono x z _ _ (hide_mono s4) q) hp) r
  · rw [s3 _ _ hD, List.filterMap_append]; simp
  · rw [take_get hx]
    exact Paired.snoc (Paired.mono (fun x z q => mono x z _ _ (hide_mono s3) q) hp) r
theorem lcp_end (mono : ∀ x z H H', Same H H' → R x z H → R x z H') (hd : ∀ H zs, Same H0 H → H D = some (.lst (zs.filterMap id)) → Paired (fun x z => R x z H) xs zs → Qd H) (H : Hp) (h : LcP D H0 R xs xs.length H) : Qd H := by
  obtain ⟨s, zs, hD, hp⟩ := h
  rw [List.take_length] at hp
  exact hd H zs s hD (Paired.mono (fun x z q => mono x z _ _ hide_same q) hp)
theorem lcf_tup (mono : ∀ x z H H', Same H H' → R x z H → R x z H') (s : Same H0 H1) (nD : H1 D = none) (ht : SqT K H0 a xs) (hl : xs.length ≤ sizeLine) (hs : ∀ x, x ∈ xs → LcStep g tt te vs σ H0 D R x)
    (hd : ∀ H zs, Same H0 H → H D = some (.lst (zs.filterMap id)) → Paired (fun x z => R x z H) xs zs → Qd H) :
    ∃ W : Nat → Nat → Hp → Prop, (∃ m, W 0 m (upd H1 D (.lst []))) ∧ ∀ i m H, W i m H →
      ((Itt K a).stop i H ∧ Qd H) ∨ ((Itt K a).go i H ∧ ∃ Nx : Hp → Prop, (∀ H', Nx H' → ∃ m', m' < m ∧ W (i + 1) m' H') ∧ ∀ x H', (Itt K a).yld i H x H' → g x (wipe σ vs) H' fun σ2 H2 => wipe σ2 vs = wipe σ vs ∧ tt σ2 H2 fun b H3 =>
        if b = true then te σ2 H3 fun y H4 => ∃ acc, H4 D = some (.lst acc) ∧ acc.length < sizeLine ∧ Nx (upd H4 D (.lst (acc ++ [y]))) else Nx H3) :=
  lc_tup (LcP D H0 R xs) (lcp_0 s nD) (fun i H _ h => ht.ext h.1) (fun i x H hx h => lcp_step mono (s.free nD) hl hx (hs x (mem_get hx)) h) (lcp_end mono hd)
theorem lcf_list (mono : ∀ x z H H', Same H H' → R x z H → R x z H') (s : Same H0 H1) (nD : H1 D = none) (ht : SqL K H0 a xs) (hl : xs.length ≤ sizeLine) (hs : ∀ x, x ∈ xs → LcStep g tt te vs σ H0 D R x)
    (hd : ∀ H zs, Same H0 H → H D = some (.lst (zs.filterMap id)) → Paired (fun x z => R x z H) xs zs → Qd H) :
    ∃ W : Nat → Nat → Hp → Prop, (∃ m, W 0 m (upd H1 D (.lst []))) ∧ ∀ i m H, W i m H →
      ((Itl K a).stop i H ∧ Qd H) ∨ ((Itl K a).go i H ∧ ∃ Nx : Hp → Prop, (∀ H', Nx H' → ∃ m', m' < m ∧ W (i + 1) m' H') ∧ ∀ x H', (Itl K a).yld i H x H' → g x (wipe σ vs) H' fun σ2 H2 => wipe σ2 vs = wipe σ vs ∧ tt σ2 H2 fun b H3 =>
        if b = true then te σ2 H3 fun y H4 => ∃ acc, H4 D = some (.lst acc) ∧ acc.length < sizeLine ∧ Nx (upd H4 D (.lst (acc ++ [y]))) else Nx H3) :=
  lc_list (LcP D H0 R xs) (lcp_0 s nD) (fun i H _ h => ht.ext h.1) (fun i x H hx h => lcp_step mono (s.free nD) hl hx (hs x (mem_get hx)) h) (lcp_end mono hd)
def Rm (R : V → V → Hp → Prop) : V → Option V → Hp → Prop := fun x z H => ∃ y, z = some y ∧ R x y H
theorem rm_split {R : V → V → Prop} : ∀ {xs : List V} {zs : List (Option V)}, Paired (fun x z => ∃ y, z = some y ∧ R x y) xs zs → ∃ ys, zs.filterMap id = ys ∧ Paired R xs ys
  | _, _, .nil => ⟨[], rfl, .nil⟩
  | _, _, .cons ⟨y, e, r⟩ t => by
    obtain ⟨ys, e2, p⟩ := rm_split t
    subst e
    exact ⟨y :: ys, by rw [← e2]; rfl, .cons r p⟩
def LmStep (g : TG) (te : TE) (vs : List Nat) (σ : L2.St) (H0 : Hp) (D : Addr) (R : V → V → Hp → Prop) (x : V) : Prop :=
  ∀ H acc (Ky : VK), Same H0 H → H D = some (.lst acc) → (∀ y H4, Same H H4 → R x y (hide D H4) → Ky y H4) → g x (wipe σ vs) H fun σ2 H2 => wipe σ2 vs = wipe σ vs ∧ te σ2 H2 Ky
end
section
variable {K : PySem.W.Frag} {a : Addr} {xs : List V} {g : TG} {te : TE} {vs : List Nat} {σ : L2.St} {H0 H1 : Hp} {D : Addr} {Qd : Hp → Prop} {R : V → V → Hp → Prop}
def OkG (g : TG) : Prop := ∀ x σ H (Q Q' : L2.St → Hp → Prop), (∀ σ' H', Q σ' H' → Q' σ' H') → g x σ H Q → g x σ H Q'
theorem okG_name (i : Nat) : OkG (gName i) := fun x σ H Q Q' h q => h _ _ q
theorem lm_step (og : OkG g) {x : V} (h : LmStep g te vs σ H0 D R x) : LcStep g tYes te vs σ H0 D (Rm R) x := fun H acc Ky Kn s hD ky kn =>
  og x _ _ _ _ (fun σ2 H2 q => ⟨q.1, ift (B := Kn H2) rfl q.2⟩) (h H acc Ky s hD fun y H4 s4 r => ky y H4 s4 ⟨y, rfl, r⟩)
theorem rm_mono (mono : ∀ x y H H', Same H H' → R x y H → R x y H') : ∀ x z H H', Same H H' → Rm R x z H → Rm R x z H' := fun x z H H' s ⟨y, e, r⟩ => ⟨y, e, mono x y _ _ s r⟩
theorem lcm_tup (mono : ∀ x y H H', Same H H' → R x y H → R x y H') (og : OkG g) (s : Same H0 H1) (nD : H1 D = none) (ht : SqT K H0 a xs) (hl : xs.length ≤ sizeLine) (hs : ∀ x, x ∈ xs → LmStep g te vs σ H0 D R x)
    (hd : ∀ H ys, Same H0 H → H D = some (.lst ys) → Paired (fun x y => R x y H) xs ys → Qd H) :
    ∃ W : Nat → Nat → Hp → Prop, (∃ m, W 0 m (upd H1 D (.lst []))) ∧ ∀ i m H, W i m H →
      ((Itt K a).stop i H ∧ Qd H) ∨ ((Itt K a).go i H ∧ ∃ Nx : Hp → Prop, (∀ H', Nx H' → ∃ m', m' < m ∧ W (i + 1) m' H') ∧ ∀ x H', (Itt K a).yld i H x H' → g x (wipe σ vs) H' fun σ2 H2 => wipe σ2 vs = wipe σ vs ∧ tYes σ2 H2 fun b H3 =>
        if b = true then te σ2 H3 fun y H4 => ∃ acc, H4 D = some (.lst acc) ∧ acc.length < sizeLine ∧ Nx (upd H4 D (.lst (acc ++ [y]))) else Nx H3) :=
  lcf_tup (rm_mono mono) s nD ht hl (fun x hx => lm_step og (hs x hx)) fun H zs s' hD hp => by
    obtain ⟨ys, e, p⟩ := rm_split hp
    rw [e] at hD
    exact hd H ys s' hD p
theorem lcm_list (mono : ∀ x y H H', Same H H' → R x y H → R x y H') (og : OkG g) (s : Same H0 H1) (nD : H1 D = none) (ht : SqL K H0 a xs) (hl : xs.length ≤ sizeLine) (hs : ∀ x, x ∈ xs → LmStep g te vs σ H0 D R x)
    (hd : ∀ H ys, Same H0 H → H D = some (.lst ys) → Paired (fun x y => R x y H) xs ys → Qd H) :
    ∃ W : Nat → Nat → Hp → Prop, (∃ m, W 0 m (upd H1 D (.lst []))) ∧ ∀ i m H, W i m H →
      ((Itl K a).stop i H ∧ Qd H) ∨ ((Itl K a).go i H ∧ ∃ Nx : Hp → Prop, (∀ H', Nx H' → ∃ m', m' < m ∧ W (i + 1) m' H') ∧ ∀ x H', (Itl K a).yld i H x H' → g x (wipe σ vs) H' fun σ2 H2 => wipe σ2 vs = wipe σ vs ∧ tYes σ2 H2 fun b H3 =>
        if b = true then te σ2 H3 fun y H4 => ∃ acc, H4 D = some (.lst acc) ∧ acc.length < sizeLine ∧ Nx (upd H4 D (.lst (acc ++ [y]))) else Nx H3) :=
  lcf_list (rm_mono mono) s nD ht hl (fun x hx => lm_step og (hs x hx)) fun H zs s' hD hp => by
    obtain ⟨ys, e, p⟩ := rm_split hp
    rw [e] at hD
    exact hd H ys s' hD p
end
section
variable {J : It} {G : Hp → Prop} {Y : Nat → Hp → V → Hp → Prop} {xs : List V} {g : TG} {te : TE} {vs : List Nat} {σ : L2.St} {H0 H1 : Hp} {D : Addr} {Qd : Hp → Prop}
/-- over any walk that leaves the heap as it is -/
theorem lcf_it {tt : TT} {R : V → Option V → Hp → Prop} {n : Nat} (w : Walk J n G Y) (hn : n = xs.length) (hG : ∀ H, Same H0 H → G H) (hY : ∀ i H x H', Y i H x H' → H' = H ∧ xs[i]? = some x) (mono : ∀ x z H H', Same H H' → R x z H → R x z H') (s : Same H0 H1) (nD : H1 D = none)
    (hl : xs.length ≤ sizeLine) (hs : ∀ x, x ∈ xs → LcStep g tt te vs σ H0 D R x) (hd : ∀ H zs, Same H0 H → H D = some (.lst (zs.filterMap id)) → Paired (fun x z => R x z H) xs zs → Qd H) :
    ∃ W : Nat → Nat → Hp → Prop, (∃ m, W 0 m (upd H1 D (.lst []))) ∧ ∀ i m H, W i m H →
      (J.stop i H ∧ Qd H) ∨ (J.go i H ∧ ∃ Nx : Hp → Prop, (∀ H', Nx H' → ∃ m', m' < m ∧ W (i + 1) m' H') ∧ ∀ x H', J.yld i H x H' → g x (wipe σ vs) H' fun σ2 H2 => wipe σ2 vs = wipe σ vs ∧ tt σ2 H2 fun b H3 =>
        if b = true then te σ2 H3 fun y H4 => ∃ acc, H4 D = some (.lst acc) ∧ acc.length < sizeLine ∧ Nx (upd H4 D (.lst (acc ++ [y]))) else Nx H3) :=
  lc_it w (LcP D H0 R xs) (lcp_0 s nD) (fun i H _ h => hG H h.1) (fun i x H H' hi h y => by
    obtain ⟨rfl, hx⟩ := hY i H x H' y
    exact lcp_step mono (s.free nD) hl hx (hs x (mem_get hx)) h) (by rw [hn]; exact lcp_end mono hd)
theorem lcm_it {R : V → V → Hp → Prop} {n : Nat} (w : Walk J n G Y) (hn : n = xs.length) (hG : ∀ H, Same H0 H → G H) (hY : ∀ i H x H', Y i H x H' → H' = H ∧ xs[i]? = some x) (mono : ∀ x y H H', Same H H' → R x y H → R x y H') (og : OkG g) (s : Same H0 H1) (nD : H1 D = none)
    (hl : xs.length ≤ sizeLine) (hs : ∀ x, x ∈ xs → LmStep g te vs σ H0 D R x) (hd : ∀ H ys, Same H0 H → H D = some (.lst ys) → Paired (fun x y => R x y H) xs ys → Qd H) :
    ∃ W : Nat → Nat → Hp → Prop, (∃ m, W 0 m (upd H1 D (.lst []))) ∧ ∀ i m H, W i m H →
      (J.stop i H ∧ Qd H) ∨ (J.go i H ∧ ∃ Nx : Hp → Prop, (∀ H', Nx H' → ∃ m', m' < m ∧ W (i + 1) m' H') ∧ ∀ x H', J.yld i H x H' → g x (wipe σ vs) H' fun σ2 H2 => wipe σ2 vs = wipe σ vs ∧ tYes σ2 H2 fun b H3 =>
        if b = true then te σ2 H3 fun y H4 => ∃ acc, H4 D = some (.lst acc) ∧ acc.length < sizeLine ∧ Nx (upd H4 D (.lst (acc ++ [y]))) else Nx H3) :=
  lcf_it w hn hG hY (rm_mono mono) s nD hl (fun x hx => lm_step og (hs x hx)) fun H zs s' hD hp => by
    obtain ⟨ys, e, p⟩ := rm_split hp
    rw [e] at hD
    exact hd H ys s' hD p
/-- the signs of a text -/
def signs (z : Str) : List V := z.cps.toList.map fun c => V.str ⟨#[c]⟩
theorem signs_len (z : Str) : z.cps.size = (signs z).length := by simp [signs]
theorem signs_at {z : Str} : ∀ (i : Nat) (H : Hp) (x : V) (H' : Hp), (H' = H ∧ ∃ c : Nat, z.cps[i]? = some c ∧ x = V.str ⟨#[c]⟩) → H' = H ∧ (signs z)[i]? = some x := fun i H x H' ⟨e, c, hc, ex⟩ => by
  refine ⟨e, ?_⟩
  subst ex
  simp only [signs, List.getElem?_map]
  rw [show z.cps.toList[i]? = some c by simpa using hc]
  rfl
theorem mem_signs {z : Str} {x : V} (h : x ∈ signs z) : ∃ c, c ∈ z.cps.toList ∧ x = .str ⟨#[c]⟩ := by
  obtain ⟨c, hc, e⟩ := List.mem_map.mp h
  exact ⟨c, hc, e.symm⟩
end
end KD
set_option Elab.async false
set_option linter.all false
set_option maxRecDepth 100000
set_option maxHeartbeats 4000000
namespace PySem
namespace KRE
open Sem (wp)
open AutoSeq1 (wpAny_loadPart')
theorem meets_enumT (l : Addr) (items : Array Value) (n : Nat) (dct : Option Addr) (sl : Array (Option Value)) :
    Meets (Builtin.«enumerate.__new__» ⟨[.type "enumerate", .ref l], []⟩) (fun _ R s => s.heap.get? l = some { cls := .type "tuple", dict := dct, data := .seq items n, slots := sl } ∧
      R (.ok (.ret (.ref (s.heap.push { cls := .type "tuple_iterator", data := .fields #[.ref l, .int 0 0] }).objs.size)))
        { s with heap := (s.heap.push { cls := .type "tuple_iterator", data := .fields #[.ref l, .int 0 0] }).push { cls := .type "enumerate", data := .fields #[.none, .bool false, .ref s.heap.objs.size, rawInt 0, .none, .none] } }) :=
  .of_wp fun prog w A R s h => by
    obtain ⟨hp, g, d, tk, os⟩ := s; obtain ⟨hl, h⟩ := h
    have hsub := sub_enumerate
    have hL : Heap.IsTuple (Shared.heap ⟨hp, g, d, tk, os⟩) l items := ⟨_, hl, rfl, n, rfl⟩
    wp_walk using wpAny_loadPart' hl
    refine wpAny_stack_any fun st => wpAny_pure ?_
    split
    · rename_i c _ _ _ _ _
      cases (c == Value.type "enumerate")
      · wp_walk using wpAny_loadPart' hl, wpAny_pyIter_tuple hL
        exact ⟨_, rfl, h⟩
      · wp_walk using wpAny_loadPart' hl, wpAny_pyIter_tuple hL
        exact ⟨_, rfl, h⟩
    · wp_walk using wpAny_loadPart' hl, wpAny_pyIter_tuple hL
      exact ⟨_, rfl, h⟩
section
variable {prog : Program} {w : World} {A : Around} {E : Value → Shared → Prop} {s : Shared}
theorem call_enumT {l : Addr} {items : Array Value} {Q : Value → Shared → Prop} (hL : s.heap.IsTuple l items)
    (h : ∀ h', IsEnum h' (s.heap.objs.size + 1) s.heap.objs.size 0 .none → h'.IsTupleIter s.heap.objs.size l 0 → h'.objs.size = s.heap.objs.size + 2 →
      (∀ b o, s.heap.get? b = some o → h'.get? b = some o) → Q (.ref (s.heap.objs.size + 1)) { s with heap := h' }) :
    wpAny (model prog w) A (call (.type "enumerate") [.ref l]) Q E s := by
  obtain ⟨⟨c, dct, dt, sl⟩, hl, hc, n, hd⟩ := hL
  replace hc : c = .type "tuple" := hc
  replace hd : dt = .seq items n := hd
  subst hc hd
  refine callType_new F.called_enumerate (by decide) (F.typeCall_enumerate_1 _) (F.newCall_enumerate_1 _) (fun obj => F.args_object_init_2 obj _) F.entry_enumerate_new
    (meets_enumT l items n dct sl) ⟨hl, ?_⟩
  have hz : (s.heap.push { cls := .type "tuple_iterator", data := .fields #[.ref l, .int 0 0] }).objs.size = s.heap.objs.size + 1 := Heap.size_push ..
  show _ ∧ _
  rw [hz]
  have he : IsEnum ((s.heap.push { cls := .type "tuple_iterator", data := .fields #[.ref l, .int 0 0] }).push
      { cls := .type "enumerate", data := .fields #[.none, .bool false, .ref s.heap.objs.size, rawInt 0, .none, .none] }) (s.heap.objs.size + 1) s.heap.objs.size 0 .none := by
    have := Heap.get?_push_size (s.heap.push { cls := .type "tuple_iterator", data := .fields #[.ref l, .int 0 0] })
      (o := { cls := .type "enumerate", data := .fields #[.none, .bool false, .ref s.heap.objs.size, rawInt 0, .none, .none] }) rfl
    rw [hz] at this; exact this
  refine ⟨⟨_, he, rfl⟩, h _ he ⟨_, Heap.get?_push_of_some _ (Heap.get?_push_size _ rfl), rfl, rfl⟩ (by rw [Heap.size_push, hz]) fun b o x => Heap.get?_push_of_some _ (Heap.get?_push_of_some _ x)⟩
end
end KRE
end PySem
namespace KR
open PySem PySem.Spec PyProof.Rows L2
/-- the tuple at a, each item in a new pair -/
def Iet (K : PySem.W.Frag) (a : Addr) : It :=
  ⟨fun i H => ∃ (xs : List V) (x : V), SqT K H a xs ∧ xs[i]? = some x, fun i H v H' => ∃ T x, v = .ref T ∧ H T = none ∧ H' = upd H T (.tup [.int (i : Nat), x]) ∧ ∀ xs, SqT K H a xs → xs[i]? = some x, fun i H => ∃ xs : List V, SqT K H a xs ∧ xs.length = i⟩
theorem tup_ne_iter {h : Heap} {a it l : Addr} {i : Nat} {items : Array Value} (p : h.IsTuple a items) (q : h.IsTupleIter it l i) : a ≠ it := by
  rintro rfl
  obtain ⟨o, e, c, _⟩ := p
  obtain ⟨o', e', c', _⟩ := q
  rw [e] at e'; cases e'
  rw [c] at c'; exact absurd c' (by decide)
theorem tup_ne_enum {h : Heap} {a e it : Addr} {i : Int} {old : Value} {items : Array Value} (p : h.IsTuple a items) (q : IsEnum h e it i old) : e ≠ a := by
  rintro rfl
  obtain ⟨o, e, c, _⟩ := p
  rw [show h.get? _ = _ from q] at e; cases e
  have c' : Value.type "enumerate" = .type "tuple" := c
  exact absurd c' (by decide)
theorem turn_enumT {P : Program} {w : World} {K : PySem.W.Frag} {elts : List Expr} {kk : Nat} {tpos : Pos} (a e it : Addr) :
    Turn P w K (.Tuple elts kk tpos) (Iet K a) [e, it] e (fun i h => (∃ old, IsEnum h e it ((i : Nat) : Int) old) ∧ h.IsTupleIter it a i ∧ e ≠ it) where
  mem := by simp
  obj := fun i h st b hb => by
    obtain ⟨⟨old, he⟩, ⟨o, ho, hc, hd⟩, _⟩ := st
    have e' : b = e ∨ b = it := by simpa using hb
    rcases e' with z | z
    · rw [z]; exact ⟨_, he, fun v q => nomatch q⟩
    · rw [z]; exact ⟨o, ho, fun v q => by rw [hd] at q; cases q⟩
  keep := fun i h h' st k => let ⟨⟨old, he⟩, hi, hne⟩ := st; ⟨⟨old, k e (by simp) _ he⟩, hi.at fun o q => k it (by simp) o q, hne⟩
  item := by
    intro X hP hw hK hc i pins s σ H E I hf st hg
    subst hP hw hK
    obtain ⟨⟨old, he⟩, hit, hne⟩ := st
    obtain ⟨xs, x, hq, hx⟩ := hg
    obtain ⟨its, rv, p, hz⟩ := I.tuple hq
    obtain ⟨u, hu, ru⟩ := rv.get hx
    have p' : s.heap.IsTuple a its.toArray := p
    have hel : e < s.heap.objs.size := Heap.lt_size he
    have hil : it < s.heap.objs.size := by obtain ⟨_, q, _⟩ := hit; exact Heap.lt_size q
    have hi : i < its.toArray.size := by
      have : i < its.length := (List.getElem?_eq_some_iff.mp hu).1
      simpa using this
    have nea := tup_ne_enum p' he
    refine wpAny_pyNext_enum_itemD (Draws.tuple (prog := X.prog) (w := X.w) (A := X.A.in1) (show X.A.in1.handled = none from I.ok.hd hc) it a (tup_ne_iter p' hit) its.toArray) he ⟨hit, p'⟩ hi hne (by simp [hne, nea])
      fun x' h' tk hP ho hit' hT hsz hk => ?_
    obtain rfl : x' = u := by
      have h1 : its.toArray[i]? = some x' := hP
      have h2 : its.toArray[i]? = some u := by simpa using hu
      rw [h2] at h1; exact (Option.some.inj h1).symm
    refine ⟨_, rfl, wpAny_letOwnedTupleGo_enum (s := { s with heap := h', toks := tk + 1 }) ho fun h'' he' sb => ?_⟩
    have hT2 : h''.get? s.heap.objs.size = some { cls := .type "tuple", data := .seq #[.int i tk, x'] } := (sb.2 _ (Nat.ne_of_gt hel)).trans hT
    have new : ObjOk X.prog X.w (upd H s.heap.objs.size (.tup [.int (i : Nat), x])) h'' s.heap.objs.size (.tup [.int (i : Nat), x]) :=
      ⟨by show 2 ≤ sizeLine; decide, [.int i tk, x'], .cons ⟨_, rfl⟩ (.cons ru .nil), ⟨_, hT2, rfl, _, rfl⟩⟩
    have I1 : Inv X pins σ (upd H s.heap.objs.size (.tup [.int (i : Nat), x])) { s with heap := h'', toks := tk + 1 } :=
      I.turnedNew (ch := [e, it]) (fun b ob hb q => (sb.2 b (fun z => hb (by simp [z]))).trans (hk b ob (fun z => hb (by simp [z])) (fun z => hb (by simp [z])) q)) hf (Nat.le_refl _) new
    refine ⟨.ref s.heap.objs.size, _, I1, rfl, ⟨_, x, rfl, I.hok.fresh (Nat.le_refl _), rfl, fun ys hy => by rw [I.tuple_inj hy hq]; exact hx⟩, ⟨⟨x', ?_⟩, hit'.1.at fun o q => (sb.2 it (Ne.symm hne)).trans q, hne⟩, fun b hb => ?_⟩
    · have e1 : ((i + 1 : Nat) : Int) = (i : Int) + 1 := by omega
      rw [e1]; exact he'
    · have hb' : b < s.heap.objs.size := by
        have e' : b = e ∨ b = it := by simpa using hb
        rcases e' with z | z
        · rw [z]; exact hel
        · rw [z]; exact hil
      rw [upd_ne (Nat.ne_of_lt hb')]
      exact (hf b hb).1
  done := by
    intro X hP hw hK hc i pins s σ H E I hf st hg
    subst hP hw hK
    obtain ⟨⟨old, he⟩, hit, hne⟩ := st
    obtain ⟨xs, hq, hx⟩ := hg
    obtain ⟨its, rv, p, hz⟩ := I.tuple hq
    have p' : s.heap.IsTuple a its.toArray := p
    obtain ⟨f0, f1, f2, f3, f4, f5⟩ := hf it (by simp)
    have hl := rv.length
    have ei : its.toArray.size = i := by simp; omega
    subst ei
    exact wpAny_pyNext_enum_endD (Draws.tuple (prog := X.prog) (w := X.w) (A := X.A.in1) (show X.A.in1.handled = none from I.ok.hd hc) it a (tup_ne_iter p' hit) its.toArray) he ⟨hit, p'⟩
      fun h' eb => ⟨rfl, I.turned (t' := s.toks) (fun b o hb q => eb b o hb q) f0 f1 f3 f4 f5⟩
  self := fun A i s Q E st h => let ⟨⟨_, he⟩, _⟩ := st; wpAny_pyIter_enum he h
def iEnumT (K : PySem.W.Frag) (ta : TA) : TI := fun σ H R => ta σ H fun vs H1 => ∃ a xs, vs = [.ref a] ∧ SqT K H1 a xs ∧ R (Iet K a) H1
theorem pi_enumT {X : Cx} {e : Expr} {ta : TA} {p pos tpos : Pos} {elts : List Expr} {kk : Nat} (hg : Gl X "enumerate") (hm : X.mg "enumerate" = none) (ha : PA X [e] ta) (hs : starEach [e] X.env = [(false, eval e X.env)] := by rfl) :
    PI X (.Tuple elts kk tpos) (.Call (.Name "enumerate" p) [e] [] pos) (iEnumT X.K ta) := by
  refine ⟨fun pins s σ H R I h => ?_⟩
  refine Call_ (ld_blt I hg hm boot_enumerate (PyProof.Rows.callWith_type1 (thn (ha.run pos pins s σ H _ I h) fun us s1 ⟨vs, H1, I1, r1, q1⟩ => ?_) hs rfl))
  obtain ⟨a, xs, ex, hq, q⟩ := q1
  subst ex
  cases r1 with
  | cons r rr =>
    cases rr
    cases r
    obtain ⟨its, rv, p', hz⟩ := I1.tuple hq
    refine PySem.KRE.call_enumT (show s1.heap.IsTuple a its.toArray from p') fun h' he hit hsz hk => wpAny_pyIter_enum he ?_
    have I2 : Inv X pins σ H1 { s1 with heap := h' } := I1.kept (t' := s1.toks) hk
    refine ⟨s1.heap.objs.size + 1, [s1.heap.objs.size + 1, s1.heap.objs.size], _, _, H1, rfl, I2, turn_enumT a (s1.heap.objs.size + 1) s1.heap.objs.size, ⟨⟨.none, he⟩, hit, Nat.succ_ne_self _⟩, fun b hb => ?_, q⟩
    have e' : b = s1.heap.objs.size + 1 ∨ b = s1.heap.objs.size := by simpa using hb
    have hle : s1.heap.objs.size ≤ b := by
      rcases e' with z | z
      · rw [z]; exact Nat.le_add_right _ _
      · rw [z]; exact Nat.le_refl _
    exact I1.fpOk hle (I1.hok.fresh hle)
theorem walk_enumT {K : PySem.W.Frag} {a : Addr} {xs : List V} : Walk (Iet K a) xs.length (fun H => SqT K H a xs) (YPair (fun i => some (.int (i : Nat))) (fun i => xs[i]?)) := by
  refine ⟨fun i _ hi q => ⟨xs, xs[i], q, by simp [hi]⟩, fun _ q => ⟨xs, q, rfl⟩, fun i H v H' _ q y => ?_⟩
  obtain ⟨T, x, h1, h2, h3, h4⟩ := y
  exact ⟨T, .int (i : Nat), x, h1, h2, h3, rfl, h4 xs q⟩
end KR
set_option Elab.async false
set_option linter.all false
set_option maxRecDepth 100000
set_option maxHeartbeats 4000000
namespace KD
open PySem PySem.Spec PyProof.Rows L2 KT KR
/-- a class of the text whose instances have a dict -/
structure Kl (K : PySem.W.Frag) (C : Addr) : Prop where
  cl : Cls K C
  ha : PySem.W.findIn K (.ref C) "__class__" = some (some (.builtin "object.__class__"))
  hn : PySem.W.specialIn K (.builtin "object.__class__") "__get__" = some (some (.builtin "getset_descriptor.__get__"))
  htk : PySem.W.takesIn K (.builtin "object.__class__") = some true
  hm : PySem.W.mroIn K C (.type "object") = some true
theorem Kl.ty {K : PySem.W.Frag} {C a dx : Addr} {fs : List (Str × V)} {H : Hp} (k : Kl K C) (h : H a = some (.ins C dx fs)) : TyX K H (.ref a) (.ref C) := .base (.ins h k.cl k.ha k.hn k.htk k.hm)
/-- built-ins by name -/
structure Blt (mg : Str → Option Value) : Prop where
  len : mg "len" = none
  isinstance : mg "isinstance" = none
  all : mg "all" = none
  abs : mg "abs" = none
  repr : mg "repr" = none
  range : mg "range" = none
  enumerate : mg "enumerate" = none
  tuple : mg "tuple" = none
  list : mg "list" = none
  dict : mg "dict" = none
  int : mg "int" = none
  str : mg "str" = none
  bool : mg "bool" = none
/-- a global int, a global text -/
def GInt (mg : Str → Option Value) (x : Str) (i : Int) : Prop := ∃ u, mg x = some u ∧ RelV (.int i) u
def GStr (mg : Str → Option Value) (x : Str) (y : Str) : Prop := ∃ u, mg x = some u ∧ RelV (.str y) u
def GRef (mg : Str → Option Value) (x : Str) (a : Addr) : Prop := ∃ u, mg x = some u ∧ RelV (.ref a) u
theorem gref {mg : Str → Option Value} {x : Str} {a : Addr} (h : mg x = some (.ref a)) : GRef mg x a := ⟨_, h, rfl⟩
/-- the class constant Part.DEPTH, Zone.MOST .. are told where they are used -/
structure Kd where
  part : Addr
  kind : Addr
  zone : Addr
  mach : Addr
structure KdOk (K : PySem.W.Frag) (mg : Str → Option Value) (C : Kd) : Prop where
  gPart : mg "Part" = some (.ref C.part)
  gKind : mg "Kind" = some (.ref C.kind)
  kind : Kl K C.kind
  isKP : PySem.W.kitOne K (.ref C.kind) (.ref C.part) = some true
  isKK : PySem.W.kitOne K (.ref C.kind) (.ref C.kind) = some true
  nDepth : NoAttr K C.kind "depth"
  nName : NoAttr K C.kind "name"
  nTimes : NoAttr K C.kind "times"
  gBYTE : GStr mg "BYTE" "byte"
  gMT : GInt mg "MOST_TIMES" 8
  gMK : GInt mg "MOST_KINDS" 3
  gLong : GInt mg "LONGEST" 8
  gLet : GStr mg "LETTERS_names" "abcdefghijklmnopqrstuvwxyz"

/-- a kind: its name and its times -/
abbrev Kn := Str × Int
def KdAt (cK : Addr) (H : Hp) (a : Addr) (k : Kn) : Prop := ∃ dx, H a = some (.ins cK dx [("depth", .int 0), ("name", .str k.1), ("times", .int k.2)])
theorem KdAt.mono {cK : Addr} {H H' : Hp} {a : Addr} {k : Kn} (s : Same H H') (h : KdAt cK H a k) : KdAt cK H' a k := let ⟨dx, e⟩ := h; ⟨dx, s _ _ e⟩
def KdsAt (cK : Addr) (H : Hp) (as : List Addr) (ks : List Kn) : Prop := Paired (KdAt cK H) as ks
theorem KdsAt.mono {cK : Addr} {H H' : Hp} {as : List Addr} {ks : List Kn} (s : Same H H') (h : KdsAt cK H as ks) : KdsAt cK H' as ks := Paired.mono (fun _ _ q => q.mono s) h
def sclK (k : Kn) : List Str := [("size " : Str) ++ k.1, ("align " : Str) ++ k.1]
def scl (ks : List Kn) : List Str := ks.flatMap sclK
def nms (ks : List Kn) : List Str := "byte" :: scl ks
def own (ks : List Kn) : List Bd := (scl ks).map (fun s => (("byte" : Str), s, (0 : Int))) ++ ks.map fun k => (("align " : Str) ++ k.1, ("size " : Str) ++ k.1, 0)
/-- what a name of a kind may be -/
def gdName (x : Str) : Prop := 1 ≤ x.length ∧ x.length ≤ 8
theorem str_nil_app (x : Str) : Str.empty ++ x = x := by
  cases x with
  | mk a => show (⟨#[] ++ a⟩ : Str) = ⟨a⟩; rw [Array.empty_append]
section
variable {P : Program} {w : World} {K : PySem.W.Frag} {mg : Str → Option Value} {base : Heap} {f : Addr} {fd : FuncData} {C : Kd}
def spWhole : Sp := fun vs H Q _ => ∃ i, vs = [.int i] ∧ Q (.bl true) H
theorem ok_is_whole (B : Blt mg) (F : FnDf K "is_whole" "is_whole" s_is_whole f fd) : FnOk P w K mg base CX0 1 f fd p_is_whole spWhole := by
  refine F.ok sc_is_whole (fun vs H Q E h => ?_) (fun cdv A outer s H vs Q E hr h => ?_)
  · obtain ⟨i, rfl, _⟩ := h; rfl
  · obtain ⟨i, rfl, k⟩ := h
    have hu := hu_of hr
    have n := sc_is_whole.nd
    refine ⟨_, PSs.nox (pss_one (ps_ret (pe_and (pe_callB call_isi (by rfl) B.isinstance (by decide +kernel) (pa_cons (pv 0) (pa_cons (pe_bltn (v := .ty "int") (by rfl) B.int (by decide +kernel) rfl) pa_nil)))
      (pe_one (pe_not (pe_callB call_isi (by rfl) B.isinstance (by decide +kernel) (pa_cons (pv 0) (pa_cons (pe_bltn (v := .ty "bool") (by rfl) B.bool (by decide +kernel) rfl) pa_nil)))))))), ?_⟩
    exact ⟨_, rfl, ⟨_, _, _, _, true, rfl, .ty "int", .base (.int i), kit_ty (by decide +kernel), true, rfl, ift rfl ⟨_, rfl, ⟨_, _, _, _, false, rfl, .ty "bool", .base (.int i), kit_ty (by decide +kernel), false, rfl, k⟩⟩⟩⟩
end
end KD
set_option Elab.async false
set_option linter.all false
set_option maxRecDepth 100000
set_option maxHeartbeats 4000000
namespace KD
open PySem PySem.Spec PyProof.Rows L2 KT KR
def barL : List Str := ["byte", "size", "align", "place", "end", "packed", "and", "or", "not", "yes", "no", "for", "nogap", "notail", "leaf"]
/-- the tuple BARRED of the written part -/
def BarAt (K : PySem.W.Frag) (mg : Str → Option Value) : Prop := ∃ (a : Addr) (o : Obj) (its : Array Value) (n : Nat), mg "BARRED" = some (.ref a) ∧ K.lookup a = some o ∧ o.cls = .type "tuple" ∧ o.data = .seq its n ∧ its.size ≤ sizeLine ∧ Vals (barL.map V.str) its.toList
def lets : Str := "abcdefghijklmnopqrstuvwxyz"
structure GdName (x : Str) : Prop where
  ge : 1 ≤ x.length
  le : x.length ≤ 8
  bar : inV (.str x) (barL.map V.str) = false
  low : ∀ c, c ∈ x.cps.toList → c ∈ lets.cps.toList
theorem size9 : (9 : Nat) ≤ sizeLine := by rw [sizeLine_eq]; decide
theorem bar_flat : (barL.map V.str).all flatV = true := by decide
section
variable {P : Program} {w : World} {K : PySem.W.Frag} {mg : Str → Option Value} {base : Heap} {f : Addr} {fd : FuncData} {C : Kd}
def spBetween : Sp := fun vs H Q _ => ∃ i a b, vs = [.int i, .int a, .int b] ∧ Q (.bl (decide (a ≤ i) && decide (i ≤ b))) H
theorem ok_is_between (G : Fd P w K mg base CX0 1 "is_whole" spWhole) (F : FnDf K "is_between" "is_between" s_is_between f fd) : FnOk P w K mg base CX0 2 f fd p_is_between spBetween := by
  refine F.ok sc_is_between (fun vs H Q E h => ?_) (fun cdv A outer s H vs Q E hr h => ?_)
  · obtain ⟨i, a, b, rfl, _⟩ := h; rfl
  · obtain ⟨i, a, b, rfl, k⟩ := h
    have hu := hu_of hr
    have n := sc_is_between.nd
    refine ⟨_, PSs.nox (pss_one (ps_ret (pe_and (pe_d G (hr.mono (by decide)) pass0 (pa_cons (pv 0) pa_nil)) (pe_one (pe_chain op_le op_le (pv 1) (pv 0) (pv 2)))))), ?_⟩
    refine ⟨_, rfl, ⟨i, rfl, true, rfl, ift rfl ?_⟩⟩
    refine ⟨_, rfl, _, rfl, _, _, rfl, rfl, _, rfl, if2 (fun z => ?_) (fun z => ?_)⟩
    · refine ⟨_, rfl, _, _, rfl, rfl, ?_⟩
      rw [z, Bool.true_and] at k
      exact k
    · rw [z, Bool.false_and] at k
      exact k
def spName : Sp := fun vs H Q _ => ∃ x, vs = [.str x] ∧ GdName x ∧ ∀ H', Same H H' → Q (.bl true) H'
theorem ok_is_name (B : Blt mg) (T : KdOk K mg C) (bar : BarAt K mg) (F : FnDf K "is_name" "is_name" s_is_name f fd) : FnOk P w K mg base CX0 1 f fd p_is_name spName := by
  refine F.ok sc_is_name (fun vs H Q E h => ?_) (fun cdv A outer s H vs Q E hr h => ?_)
  · obtain ⟨x, rfl, _⟩ := h; rfl
  · obtain ⟨x, rfl, g, k⟩ := h
    have hu := hu_of hr
    have n := sc_is_name.nd
    obtain ⟨ba, bo, bi, bn, gb, b1, b2, b3, b4, b5⟩ := bar
    refine ⟨_, PSs.nox (pss_ct (ps_if (PW.pt (pw_or (pt_not (pt_val (pe_callB call_isi (by rfl) B.isinstance (by decide +kernel) (pa_cons (pv 0) (pa_cons (pe_bltn (v := .ty "str") (by rfl) B.str (by decide +kernel) rfl) pa_nil)))))
        (pw_or (pt_not (pt_chain op_le op_le pe_int (pe_callB call_len_str (by rfl) B.len (by decide +kernel) (pa_cons (pv 0) pa_nil)) (C8.pe_gc (by rfl) T.gLong)))
        (pw_or1 (pt_cmpR op_in_seq (pv 0) (C8.pe_gc (by rfl) (gref gb)) (by rfl))))))
        (pss_one (ps_ret pe_bl))
        pss_nil)
      (pss_one (ps_ret (pe_callB (cr_all rfl) (by rfl) B.all (by decide +kernel) (pa_cons (pe_lc (own := [("sign", 1)]) (g := gName 1) rfl n (pi_str (pv 0)) (blkOk_by (N := n_is_name) (sc := defScope s_is_name) (by decide +kernel)) (fun _ _ _ _ _ => (pg_name (i := 1) n rfl (.inl rfl))) (fun _ _ _ _ _ => pts_nil) (fun _ _ _ _ _ => (pe_cmpR op_in_sign (pv 1) (C8.pe_gc (by rfl) T.gLet) (by rfl)))) pa_nil))))), ?_⟩
    refine ⟨fun σ' H' => σ' = [some (.str x), none] ∧ H' = H, ?_, ?_⟩
    · refine u_if (u_or (u_not (u_B ⟨_, rfl, ⟨_, _, _, _, true, rfl, .ty "str", .base (.str x), kit_ty (by decide +kernel), true, rfl, iff0 rfl ?_⟩⟩)))
      refine u_or (u_not ⟨_, rfl, x, rfl, Nat.le_trans g.le (Nat.le_trans (by decide) size9), _, _, rfl, rfl, true, ?_, ?_⟩)
      · exact congrArg V.bl (decide_eq_true (by have := g.ge; omega))
      · refine ift rfl ⟨_, _, rfl, rfl, true, ?_, iff0 rfl ?_⟩
        · exact congrArg V.bl (decide_eq_true (by have := g.le; omega))
        · refine ⟨_, rfl, ba, _, rfl, .inr (.inr ⟨bo, bi, bn, b1, b2, b3, b4, b5⟩), rfl, bar_flat, false, ?_, iff0 rfl ⟨rfl, rfl⟩⟩
          rw [if_neg (by decide), g.bar]
    · rintro σ1 H1 ⟨rfl, rfl⟩
      refine ⟨_, rfl, x, rfl, fun D hD => ?_⟩
      refine lcm_it (xs := signs x) walk_str (signs_len x) (fun _ _ => trivial) signs_at (R := fun _ y _ => y = .bl true) (fun _ _ _ _ _ h => h) (okG_name 1) (Same.refl _) hD ?_ (fun y hy => ?_) ?_
      · rw [← signs_len]; exact Nat.le_trans g.le (Nat.le_trans (by decide) size9)
      · obtain ⟨c, hc, rfl⟩ := mem_signs hy
        intro H acc Ky s1 hD1 ky
        refine ⟨rfl, _, rfl, c, _, rfl, rfl, ky _ _ (Same.refl _) (congrArg V.bl (decide_eq_true (g.low c hc)))⟩
      · intro H ys s1 hD1 hp
        have e : ys = (ys.map fun _ => true).map V.bl := by
          have : ∀ {xs ys : List V}, Paired (fun _ y => y = V.bl true) xs ys → ys = (ys.map fun _ => true).map V.bl := fun {xs ys} p => by
            induction p with
            | nil => rfl
            | cons h _ ih => rw [List.map_cons, List.map_cons, ← ih, h]
          exact this hp
        refine ⟨D, ys.map fun _ => true, rfl, .inl (.inl (e ▸ hD1)), ?_⟩
        have a : ((ys.map fun _ => true).all id) = true := by simp
        rw [a]
        exact k _ s1
end
end KD
set_option Elab.async false
set_option linter.all false
set_option maxRecDepth 100000
set_option maxHeartbeats 4000000
namespace KD
open PySem PySem.Spec PyProof.Rows L2 KT KR
/-- the kinds of a zone -/
structure KsOk (ks : List Kn) : Prop where
  ne : 1 ≤ ks.length
  le : ks.length ≤ 3
  nm : ∀ k ∈ ks, GdName k.1
  tm : ∀ k ∈ ks, 1 ≤ k.2 ∧ k.2 ≤ 8
  nd : (ks.map (·.1)).Nodup
theorem str_len (x y : Str) : (x ++ y).length = x.length + y.length := by
  obtain ⟨a⟩ := x
  obtain ⟨b⟩ := y
  show (a ++ b).size = a.size + b.size
  exact Array.size_append
theorem size_len (x : Str) : (("size " : Str) ++ x).length = 5 + x.length := by rw [str_len]; rfl
theorem align_len (x : Str) : (("align " : Str) ++ x).length = 6 + x.length := by rw [str_len]; rfl
theorem strOk_of {x : Str} (h : ∀ c, c ∈ x.cps.toList → c ∈ lets.cps.toList) : PyData.strOk x = true := by
  unfold PyData.strOk
  rw [← Array.all_toList, List.all_eq_true]
  intro c hc
  have h2 : ∀ c, c ∈ lets.cps.toList → decide (c < 0x110000) = true := by decide
  exact h2 c (h c hc)
section
variable {P : Program} {w : World} {K : PySem.W.Frag} {mg : Str → Option Value} {base : Heap} {f : Addr} {fd : FuncData} {C : Kd}
def spShape (cK : Addr) : Sp := fun vs H Q _ => ∃ a k, vs = [.ref a] ∧ KdAt cK H a k ∧ ∀ p, H p = none → Q (.ref p) (upd H p (.tup [.str "kind", .str k.1, .int k.2]))
theorem ok_shape (T : KdOk K mg C) (F : FnDf K "shape" "Kind.shape" s_Kind_shape f fd) : FnOk P w K mg base CX0 1 f fd p_Kind_shape (spShape C.kind) := by
  refine F.ok sc_Kind_shape (fun vs H Q E h => ?_) (fun cdv A outer s H vs Q E hr h => ?_)
  · obtain ⟨a, k, rfl, _⟩ := h; rfl
  · obtain ⟨a, k, rfl, ⟨dx, hk⟩, q⟩ := h
    have hu := hu_of hr
    have n := sc_Kind_shape.nd
    refine ⟨_, PSs.nox (pss_one (ps_ret (pe_tup (pa_cons pe_str (pa_cons (pe_fld (pv 0) rfl) (pa_cons (pe_fld (pv 0) rfl) pa_nil)))))), ?_⟩
    exact ⟨_, rfl, a, _, dx, _, _, rfl, hk, T.kind.cl, T.nName, rfl, _, rfl, a, _, dx, _, _, rfl, hk, T.kind.cl, T.nTimes, rfl, three_ok, q⟩
def kd3 (k : Kn) : PyData := .tuple [.str "kind", .str k.1, .int k.2]
theorem kd3_dp {H : Hp} {p : Addr} {k : Kn} (h : H p = some (.tup [.str "kind", .str k.1, .int k.2])) : Dp K H (.ref p) (kd3 k) := .tup (.of h) (.cons (.str _) (.cons (.str _) (.cons (.int _) .nil)))
theorem kd3_shaped {k : Kn} (h : GdName k.1) : SeqAt.shaped (kd3 k) = true := by
  have h1 : PyData.strOk k.1 = true := strOk_of h.low
  have h2 : PyData.strOk "kind" = true := strOk_of (by decide)
  have c : (kd3 k).canLay0 = true := by simp [kd3, PyData.canLay0, PyData.canLayAll0, h1, h2]
  have d : (kd3 k).depth ≤ 64 := by simp [kd3, PyData.depth, PyData.depthAll]
  unfold SeqAt.shaped
  rw [c, decide_eq_true d]; rfl
theorem kd3_eq (k l : Kn) : PyData.eqv (kd3 k) (kd3 l) = decide (k = l) := by
  obtain ⟨x, i⟩ := k
  obtain ⟨y, j⟩ := l
  simp [kd3, PyData.eqv, PyData.eqvAll, Bool.beq_eq_decide_eq]
def spKEq (cK : Addr) : Sp := fun vs H Q _ => ∃ a b k l, vs = [.ref a, .ref b] ∧ KdAt cK H a k ∧ KdAt cK H b l ∧ GdName k.1 ∧ GdName l.1 ∧ ∀ H', Same H H' → Q (.bl (decide (k = l))) H'
theorem ok_keq (B : Blt mg) (T : KdOk K mg C) (M : Md P w K mg base CX0 1 C.kind "shape" (spShape C.kind)) (F : FnDf K "__eq__" "Part.__eq__" s_Part_eq f fd) : FnOk P w K mg base CX0 2 f fd p_Part_eq (spKEq C.kind) := by
  refine F.ok sc_Part_eq (fun vs H Q E h => ?_) (fun cdv A outer s H vs Q E hr h => ?_)
  · obtain ⟨a, b, k, l, rfl, _⟩ := h; rfl
  · obtain ⟨a, b, k, l, rfl, ha, hb, gk, gl, q⟩ := h
    have hu := hu_of hr
    have n := sc_Part_eq.nd
    refine ⟨_, PSs.nox (pss_one (ps_ret (pe_and (pe_callB call_isi (by rfl) B.isinstance (by decide +kernel) (pa_cons (pv 1) (pa_cons (C8.pe_gc (by rfl) (gref T.gPart)) pa_nil)))
      (pe_one (pe_cmpR (op_eqD hr.units) (pe_m0 (pv 0) T.kind.cl M (hr.mono (by decide)) pass0) (pe_m0 (pv 1) T.kind.cl M (hr.mono (by decide)) pass0) (nomark _)))))), ?_⟩
    obtain ⟨dx, ea⟩ := id ha
    obtain ⟨dy, eb⟩ := id hb
    refine ⟨_, rfl, ⟨_, _, _, _, true, rfl, .own C.part, T.kind.ty eb, T.isKP, true, rfl, ift rfl ?_⟩⟩
    refine ⟨_, rfl, a, dx, _, rfl, ea, rfl, a, k, rfl, ha, fun p hp => ?_⟩
    have s1 := same_new (o := .tup [.str "kind", .str k.1, .int k.2]) hp
    refine ⟨_, rfl, b, dy, _, rfl, s1 _ _ eb, rfl, b, l, rfl, hb.mono s1, fun p2 hp2 => ?_⟩
    have s2 := same_new (o := .tup [.str "kind", .str l.1, .int l.2]) hp2
    refine ⟨kd3 k, kd3 l, kd3_dp (s2 _ _ upd_same), kd3_dp upd_same, kd3_shaped gk, kd3_shaped gl, ?_⟩
    rw [kd3_eq]
    exact q _ (s1.trans s2)
def spScales (cK : Addr) : Sp := fun vs H Q _ => ∃ ta as ks, vs = [.ref ta] ∧ H ta = some (.tup (as.map V.ref)) ∧ KdsAt cK H as ks ∧ KsOk ks ∧ ∀ p H', Same H H' → NmAt H' p (scl ks) → Q (.ref p) H'
theorem scl_take {ks : List Kn} {i : Nat} {k : Kn} (h : ks[i]? = some k) : scl (ks.take (i + 1)) = scl (ks.take i) ++ sclK k := by
  rw [take_get h]; simp [scl]
theorem scl_len (ks : List Kn) : (scl ks).length = 2 * ks.length := by
  induction ks with
  | nil => rfl
  | cons k r ih => rw [scl, List.flatMap_cons, List.length_append]; show 2 + (scl r).length = _; rw [ih, List.length_cons]; omega
theorem ok_scales_of (B : Blt mg) (T : KdOk K mg C) (F : FnDf K "scales_of" "scales_of" s_scales_of f fd) : FnOk P w K mg base CX0 1 f fd p_scales_of (spScales C.kind) := by
  refine F.ok sc_scales_of (fun vs H Q E h => ?_) (fun cdv A outer s H vs Q E hr h => ?_)
  · obtain ⟨ta, as, ks, rfl, _⟩ := h; rfl
  · obtain ⟨ta, as, ks, rfl, ht, hk, ok, q⟩ := h
    have hu := hu_of hr
    have n := sc_scales_of.nd
    refine ⟨_, PSs.nox (pss_cons (ps_set (i := 1) n rfl (.inl rfl) (pe_lst pa_nil))
      (pss_cons (ps_for PassesOwn.never rfl (pi_tup (pv 0)) (pg_name (i := 2) n rfl (.inl rfl))
        (pss_one (ps_expr (pe_bm PySem.F.plainAttrs_list PySem.F.slot_list_extend PySem.F.type_list_extend mt_extend (pv 1) (pa_cons (pe_lst (pa_cons (pe_joined (.cons pe_str (.cons (pe_fmt (pe_fld (pv 2) rfl)) .nil))) (pa_cons (pe_joined (.cons pe_str (.cons (pe_fmt (pe_fld (pv 2) rfl)) .nil))) pa_nil))) pa_nil)))))
      (pss_one (ps_ret (pe_callTy call_tuple_of (by rfl) B.tuple (by decide +kernel) (pa_cons (pv 1) pa_nil)))))), ?_⟩
    have lk : as.length = ks.length := hk.length
    have l6 := scl_len ks
    have l3 := ok.le
    refine ⟨Nat.zero_le _, fun fo hfo => ⟨_, rfl, ta, rfl, ⟨_, SqT.of (same_new hfo _ _ ht)⟩, ?_⟩⟩
    refine for_tup (K := K) (a := ta) (xs := as.map V.ref) (fun m σ' H' => ∃ x, σ' = [some (.ref ta), some (.ref fo), x] ∧ Same H H' ∧ H' fo = some (.lst ((scl (ks.take m)).map V.str)))
      ⟨none, rfl, same_new hfo, upd_same⟩ (fun m σ' H' _ ⟨_, _, s, _⟩ => SqT.of (s _ _ ht)) ?_ ?_
    · rintro m x0 σ' H' hx ⟨x, rfl, s1, h1⟩
      obtain ⟨a, ha, rfl⟩ := get_ref hx
      obtain ⟨k, hkm, hka⟩ := Paired.get hk ha
      obtain ⟨dx, ea⟩ := hka.mono s1
      have gk := ok.nm k (mem_get hkm)
      have g8 := gk.le
      refine ⟨_, rfl, .inl ⟨rfl, _, SqL.of h1⟩, ?_⟩
      -- the two texts
      refine ⟨_, rfl, ?_, ⟨_, rfl, a, _, dx, _, _, rfl, ea, T.kind.cl, T.nName, rfl, .inl ⟨k.1, rfl, ?_, _, rfl, ?_, ?_⟩⟩⟩
      · rw [str_nil_app]; exact Nat.le_trans (by decide) size9
      · exact Nat.le_trans gk.le (Nat.le_trans (by decide) size9)
      · rw [str_nil_app, size_len, sizeLine_eq]; omega
      · refine ⟨_, rfl, ?_, ⟨_, rfl, a, _, dx, _, _, rfl, ea, T.kind.cl, T.nName, rfl, .inl ⟨k.1, rfl, ?_, _, rfl, ?_, ?_⟩⟩⟩
        · rw [str_nil_app]; exact Nat.le_trans (by decide) size9
        · exact Nat.le_trans gk.le (Nat.le_trans (by decide) size9)
        · rw [str_nil_app, align_len, sizeLine_eq]; omega
        · refine ⟨two_ok, fun p hp => ?_⟩
          have e1 := same_new (o := .lst [.str (Str.empty ++ "size " ++ k.1), .str (Str.empty ++ "align " ++ k.1)]) hp
          refine ⟨fo, p, _, _, rfl, rfl, e1 _ _ h1, upd_same, ?_, ?_⟩
          · rw [List.length_map, scl_len, List.length_take, sizeLine_eq]
            show 2 * min m ks.length + 2 ≤ _
            omega
          · refine ⟨_, rfl, same_mut (s1.trans e1) hfo, ?_⟩
            rw [upd_same, scl_take hkm, List.map_append, str_nil_app, str_nil_app]
            rfl
    · rintro σ' H' ⟨x, rfl, s1, h1⟩
      rw [List.length_map, lk, List.take_length] at h1
      refine ⟨_, rfl, fo, _, rfl, .inl ⟨SqL.of h1, fun l hl => q _ _ (s1.trans (same_new hl)) upd_same⟩⟩
end
end KD
set_option Elab.async false
set_option linter.all false
set_option maxRecDepth 100000
set_option maxHeartbeats 4000000
namespace KD
open PySem PySem.Spec PyProof.Rows L2 KT KR
section
variable {P : Program} {w : World} {K : PySem.W.Frag} {mg : Str → Option Value} {base : Heap} {f : Addr} {fd : FuncData} {C : Kd}
theorem pe_fldK {X : Cx} {K : PySem.W.Frag} {e : Expr} {f : Str} {pos : Pos} {ta : TE} (hK : X.K = K) (he : PE X e ta) (hb : attributeBase e f X.env (eval e X.env) = eval e X.env) : PE X (.Attribute e f pos) (tFld K ta f) := by
  subst hK; exact pe_fld he hb
theorem paired_str {F : V → V → Prop} {xs ys : List V} (h : Paired F xs ys) (g : V → V) (hg : ∀ x y, F x y → y = g x) : ys = xs.map g := by
  induction h with
  | nil => rfl
  | cons h _ ih => rw [List.map_cons, ← ih, hg _ _ h]
theorem inV_str {x : Str} {ys : List Str} (h : x ∉ ys) : inV (.str x) (ys.map V.str) = false := by
  unfold inV
  rw [List.any_map]
  refine List.any_eq_false.mpr fun y hy => ?_
  show ¬ (y == x) = true
  intro e
  exact h (eq_of_beq e ▸ hy)
theorem flat_str (ys : List Str) : (ys.map V.str).all flatV = true := by
  rw [List.all_map]
  exact List.all_eq_true.mpr fun _ _ => rfl
theorem cut_to (xs : List V) (m : Nat) (h : m ≤ xs.length) : cutV xs none (some (m : Int)) = xs.take m := by
  unfold cutV
  rw [HT.sIx_none, HT.sIx_nat, List.drop_zero, Nat.min_eq_left h, Nat.sub_zero]
theorem KdAt.uniq {cK : Addr} {H : Hp} {a : Addr} {k l : Kn} (h : KdAt cK H a k) (h' : KdAt cK H a l) : k = l := by
  obtain ⟨x, i⟩ := k
  obtain ⟨y, j⟩ := l
  obtain ⟨d1, q1⟩ := h
  obtain ⟨d2, q2⟩ := h'
  rw [q1] at q2
  simp at q2
  simp [q2]
theorem names_of {cK : Addr} {H : Hp} : ∀ {as : List Addr} {ks : List Kn} {ys : List V}, KdsAt cK H as ks → Paired (fun x y => ∃ a, x = V.ref a ∧ ∀ k, KdAt cK H a k → y = .str k.1) (as.map V.ref) ys → ys = (ks.map (·.1)).map V.str
  | _, _, _, .nil, .nil => rfl
  | _, _, _, .cons h t, .cons ⟨a, e, r⟩ t2 => by
    cases e
    rw [List.map_cons, List.map_cons, ← names_of t t2, r _ h]
def spKinds (cK : Addr) : Sp := fun vs H Q _ => ∃ ta as ks, vs = [.ref ta] ∧ H ta = some (.tup (as.map V.ref)) ∧ KdsAt cK H as ks ∧ KsOk ks ∧ ∀ H', Same H H' → Q .non H'
theorem ok_need_kinds (B : Blt mg) (T : KdOk K mg C) (F : FnDf K "need_kinds" "need_kinds" s_need_kinds f fd) : FnOk P w K mg base CX0 1 f fd p_need_kinds (spKinds C.kind) := by
  refine F.ok sc_need_kinds (fun vs H Q E h => ?_) (fun cdv A outer s H vs Q E hr h => ?_)
  · obtain ⟨ta, as, ks, rfl, _⟩ := h; rfl
  · obtain ⟨ta, as, ks, rfl, ht, hk, ok, q⟩ := h
    have hu := hu_of hr
    have n := sc_need_kinds.nd
    refine ⟨_, PSs.nox (pss_ct (ps_if (PW.pt (pw_or (pt_not (pt_val (pe_callB call_isiT (by rfl) B.isinstance (by decide +kernel) (pa_cons (pv 0) (pa_cons (pe_tup (pa_cons (pe_bltn (v := .ty "list") (by rfl) B.list (by decide +kernel) rfl) (pa_cons (pe_bltn (v := .ty "tuple") (by rfl) B.tuple (by decide +kernel) rfl) pa_nil))) pa_nil)))))
        (pw_or1 (pt_not (pt_chain op_le op_le pe_int (pe_callB call_len_seq (by rfl) B.len (by decide +kernel) (pa_cons (pv 0) pa_nil)) (C8.pe_gc (by rfl) T.gMK))))))
        pss_never
        pss_nil)
      (pss_cons (ps_for PassesOwn.never rfl (pi_enumT (by rfl) B.enumerate (pa_cons (pv 0) pa_nil)) (pg_tup rfl (pgs_cons (pg_name (i := 1) n rfl (.inl rfl)) (pgs_cons (pg_name (i := 2) n rfl (.inl rfl)) pgs_nil)))
        (pss_one (ps_if (pt_not (pt_val (pe_callB call_isi (by rfl) B.isinstance (by decide +kernel) (pa_cons (pv 2) (pa_cons (C8.pe_gc (by rfl) (gref T.gKind)) pa_nil)))))
            pss_never
            pss_nil)))
      (pss_cons (ps_setLc (own := [("kind", 2)]) (g := gName 2) (i := 3) rfl n rfl rfl (sw_true rfl rfl rfl (by decide +kernel)) (pi_tup (pv 0)) (blkOk_by (N := n_need_kinds) (sc := defScope s_need_kinds) (by decide +kernel)) (fun _ _ _ _ _ => (pg_name (i := 2) n rfl (.inl rfl))) (fun _ _ _ _ _ => pts_nil) (fun _ _ _ _ _ => (pe_fldK (K := K) rfl (pv 2) rfl)))
      (pss_one (ps_for PassesOwn.never rfl (pi_enum (by rfl) B.enumerate (pa_cons (pv 3) pa_nil)) (pg_tup rfl (pgs_cons (pg_name (i := 1) n rfl (.inl rfl)) (pgs_cons (pg_name (i := 4) n rfl (.inl rfl)) pgs_nil)))
        (pss_one (ps_if (pt_cmpR op_in_seq (pv 4) (pe_slice sl_list (pv 3) po_none (po_some (pv 1))) (by rfl))
            pss_never
            pss_nil))))))), ?_⟩
    have lk : as.length = ks.length := hk.length
    have l1 := ok.ne
    have l3 := ok.le
    refine ⟨fun σ' H' => σ' = [some (.ref ta), none, none, none, none] ∧ Same H H', ?_, ?_⟩
    · refine u_if (u_or (u_not (u_B ⟨_, rfl, two_ok, fun p hp => ?_⟩)))
      have s1 := same_new (o := .tup [.ty "list", .ty "tuple"]) hp
      refine ⟨_, p, _, _, _, true, rfl, upd_same, .cons (.ty "list") (.cons (.ty "tuple") .nil), .base (.tup (s1 _ _ ht)), ?_, true, rfl, iff0 rfl ?_⟩
      · refine kitAny_cons (b := false) (kit_ty (by decide +kernel)) (fun _ => ?_) (fun z => by cases z)
        exact kitAny_cons (b := true) (kit_ty (by decide +kernel)) (fun z => by cases z) (fun _ => rfl)
      · refine u_not ⟨_, rfl, ta, _, rfl, .inr (SqT.of (s1 _ _ ht)), _, _, rfl, rfl, true, ?_, ?_⟩
        · exact congrArg V.bl (decide_eq_true (by rw [List.length_map]; omega))
        · refine ift rfl ⟨_, _, rfl, rfl, true, congrArg V.bl (decide_eq_true (by rw [List.length_map]; omega)), iff0 rfl ⟨rfl, s1⟩⟩
    · rintro σ1 H1 ⟨rfl, s1⟩
      refine ⟨_, rfl, ta, _, rfl, SqT.of (s1 _ _ ht), ?_⟩
      refine for_it walk_enumT (fun m σ' H' => ∃ x y, σ' = [some (.ref ta), x, y, none, none] ∧ Same H H') ⟨none, none, rfl, s1⟩ (fun m σ' H' _ ⟨_, _, _, s⟩ => SqT.of (s _ _ ht)) ?_ ?_
      · rintro m x0 σ' H' H2 hm ⟨x, y, rfl, s2⟩ ⟨p, i, z, rfl, hp, rfl, ei, ez⟩
        cases ei
        obtain ⟨a, ha, rfl⟩ := get_ref ez
        obtain ⟨k, hkm, hka⟩ := Paired.get hk ha
        have s3 := s2.trans (same_new (o := .tup [.int m, .ref a]) hp)
        obtain ⟨dx, ea⟩ := hka.mono s3
        refine ⟨p, _, rfl, SqT.of upd_same, rfl, _, _, rfl, _, _, rfl, rfl, ?_⟩
        refine u_if (u_not (u_B ⟨_, rfl, _, _, _, _, true, rfl, .own C.kind, T.kind.ty ea, T.isKK, true, rfl, iff0 rfl ⟨_, _, rfl, s3⟩⟩))
      · rintro σ2 H2 ⟨x, y, rfl, s2⟩
        refine ⟨_, rfl, ta, rfl, ⟨_, SqT.of (s2 _ _ ht)⟩, fun D hD => ?_⟩
        refine lcm_tup (xs := as.map V.ref) (H0 := H2) (R := fun x y _ => ∃ a, x = .ref a ∧ ∀ k, KdAt C.kind H a k → y = .str k.1) (fun _ _ _ _ _ h => h) (okG_name 2) (Same.refl _) hD (SqT.of (s2 _ _ ht)) (by rw [List.length_map, sizeLine_eq]; omega) (fun y hy => ?_) ?_
        · intro H3 acc Ky s3 hD3 ky
          obtain ⟨a, ha, rfl⟩ := List.mem_map.mp hy
          obtain ⟨i, hi⟩ := List.getElem?_of_mem ha
          obtain ⟨k, hkm, hka⟩ := Paired.get hk hi
          obtain ⟨dx, ea⟩ := hka.mono (s2.trans s3)
          exact ⟨rfl, _, rfl, a, _, dx, _, _, rfl, ea, T.kind.cl, T.nName, rfl, ky _ _ (Same.refl _) ⟨a, rfl, fun k' hk' => by rw [hka.uniq hk']⟩⟩
        · intro H3 ys s3 hD3 hp
          have e : ys = (ks.map (·.1)).map V.str := names_of hk hp
          subst e
          have s03 := s2.trans s3
          refine ⟨_, rfl, D, _, rfl, SqL.of hD3, ?_⟩
          refine for_it walk_enum (fun m σ' H' => ∃ x y z, σ' = [some (.ref ta), x, y, some (.ref D), z] ∧ Same H3 H') ⟨_, _, _, rfl, Same.refl _⟩ (fun m σ' H' _ ⟨_, _, _, _, s⟩ => SqL.of (s _ _ hD3)) ?_ ?_
          · rintro m x0 σ' H' H5 hm ⟨x, y, z, rfl, s4⟩ ⟨p, i, z', rfl, hp, rfl, ei, ez⟩
            cases ei
            obtain ⟨a, ha, rfl⟩ := get_map ez
            have s5 := s4.trans (same_new (o := .tup [.int m, .str a]) hp)
            refine ⟨p, _, rfl, SqT.of upd_same, rfl, _, _, rfl, _, _, rfl, rfl, ?_⟩
            refine ⟨_, rfl, _, rfl, _, rfl, _, rfl, D, _, rfl, SqL.of (s5 _ _ hD3), fun p2 hp2 => ?_⟩
            have s6 := s5.trans (same_new (o := .lst (cutV ((ks.map (·.1)).map V.str) none (some (m : Int)))) hp2)
            rw [cut_to _ _ (Nat.le_of_lt hm), ← List.map_take] at s6 ⊢
            refine ⟨p2, _, rfl, .inl (SqL.of upd_same), rfl, flat_str _, false, ?_, iff0 rfl ⟨_, _, _, rfl, s6⟩⟩
            rw [if_neg (by decide), inV_str (take_not ok.nd ha)]
          · rintro σ5 H5 ⟨x, y, z, rfl, s5⟩
            exact q _ (s03.trans s5)
end
end KD
set_option Elab.async false
set_option linter.all false
set_option maxRecDepth 100000
set_option maxHeartbeats 4000000
namespace KD
open PySem PySem.Spec PyProof.Rows L2 KT KR
/-- a new bound for x -/
def RBd (G : V → Bd → Prop) : V → V → Hp → Prop := fun x y H => ∃ p b, y = .ref p ∧ BdAt H p b ∧ G x b
theorem rbd_mono (G : V → Bd → Prop) : ∀ x y H H', Same H H' → RBd G x y H → RBd G x y H' := fun x y H H' s ⟨p, b, e, h, g⟩ => ⟨p, b, e, s _ _ h, g⟩
theorem rbd_split {G : V → Bd → Prop} {H : Hp} : ∀ {xs ys : List V}, Paired (fun x y => RBd G x y H) xs ys → ∃ bas bs, ys = bas.map V.ref ∧ BdsAt H bas bs ∧ Paired G xs bs
  | _, _, .nil => ⟨[], [], rfl, .nil, .nil⟩
  | _, _, .cons ⟨p, b, e, h, g⟩ t => by
    obtain ⟨bas, bs, e2, h2, g2⟩ := rbd_split t
    exact ⟨p :: bas, b :: bs, by rw [e, e2]; rfl, .cons h h2, .cons g g2⟩
theorem own1 : ∀ {ss : List Str} {bs : List Bd}, Paired (fun x b => ∃ s, x = V.str s ∧ b = (("byte" : Str), s, (0 : Int))) (ss.map V.str) bs → bs = ss.map fun s => (("byte" : Str), s, (0 : Int))
  | [], _, .nil => rfl
  | _ :: _, _, .cons ⟨s, e, r⟩ t => by cases e; rw [List.map_cons, ← own1 t, r]
theorem own2 {cK : Addr} {H : Hp} : ∀ {as : List Addr} {ks : List Kn} {bs : List Bd}, KdsAt cK H as ks → Paired (fun x b => ∃ a, x = V.ref a ∧ ∀ k, KdAt cK H a k → b = (("align " : Str) ++ k.1, ("size " : Str) ++ k.1, (0 : Int))) (as.map V.ref) bs →
    bs = ks.map fun k => (("align " : Str) ++ k.1, ("size " : Str) ++ k.1, (0 : Int))
  | _, _, _, .nil, .nil => rfl
  | _, _, _, .cons h t, .cons ⟨a, e, r⟩ t2 => by
    cases e
    rw [List.map_cons, ← own2 t t2, r _ h]
section
variable {P : Program} {w : World} {K : PySem.W.Frag} {mg : Str → Option Value} {base : Heap} {f : Addr} {fd : FuncData} {C : Kd}
def spOwn (cK : Addr) : Sp := fun vs H Q _ => ∃ ta as ks, vs = [.ref ta] ∧ H ta = some (.tup (as.map V.ref)) ∧ KdsAt cK H as ks ∧ KsOk ks ∧
  ∀ p bas H', Same H H' → H' p = some (.tup (bas.map V.ref)) → BdsAt H' bas (own ks) → Q (.ref p) H'
theorem ok_own_bounds (B : Blt mg) (T : KdOk K mg C) (G : Fd P w K mg base CX0 1 "scales_of" (spScales C.kind)) (F : FnDf K "own_bounds" "own_bounds" s_own_bounds f fd) : FnOk P w K mg base CX0 2 f fd p_own_bounds (spOwn C.kind) := by
  refine F.ok sc_own_bounds (fun vs H Q E h => ?_) (fun cdv A outer s H vs Q E hr h => ?_)
  · obtain ⟨ta, as, ks, rfl, _⟩ := h; rfl
  · obtain ⟨ta, as, ks, rfl, ht, hk, ok, q⟩ := h
    have hu := hu_of hr
    have n := sc_own_bounds.nd
    refine ⟨_, PSs.nox (pss_cons (ps_setLc (own := [("scale", 2)]) (g := gName 2) (i := 1) rfl n rfl rfl (sw_true rfl rfl rfl (by decide +kernel)) (pi_tup (pe_d G (hr.mono (by decide)) pass0 (pa_cons (pv 0) pa_nil))) (blkOk_by (N := n_own_bounds) (sc := defScope s_own_bounds) (by decide +kernel)) (fun _ _ _ _ _ => (pg_name (i := 2) n rfl (.inl rfl))) (fun _ _ _ _ _ => pts_nil) (fun _ _ _ _ _ => (pe_tup (pa_cons (C8.pe_gc (by rfl) T.gBYTE) (pa_cons (pv 2) (pa_cons pe_int pa_nil))))))
      (pss_one (ps_ret (pe_tup (StX.pa_star (pv 1) (StX.pa_star (pe_lc (own := [("kind", 3)]) (g := gName 3) rfl n (pi_tup (pv 0)) (blkOk_by (N := n_own_bounds) (sc := defScope s_own_bounds) (by decide +kernel)) (fun _ _ _ _ _ => (pg_name (i := 3) n rfl (.inl rfl))) (fun _ _ _ _ _ => pts_nil)
        (fun _ _ _ _ _ => (pe_tup (pa_cons (pe_joined (.cons pe_str (.cons (pe_fmt (pe_fldK (K := K) rfl (pv 3) rfl)) .nil))) (pa_cons (pe_joined (.cons pe_str (.cons (pe_fmt (pe_fldK (K := K) rfl (pv 3) rfl)) .nil))) (pa_cons pe_int pa_nil)))))) pa_nil)))))), ?_⟩
    have lk : as.length = ks.length := hk.length
    have l6 := scl_len ks
    have l3 := ok.le
    refine ⟨_, rfl, ta, as, ks, rfl, ht, hk, ok, fun sa H1 s1 hs => ⟨sa, rfl, ⟨_, SqT.of hs⟩, fun D hD => ?_⟩⟩
    refine lcm_tup (xs := (scl ks).map V.str) (H0 := H1) (R := RBd fun x b => ∃ s, x = V.str s ∧ b = (("byte" : Str), s, (0 : Int))) (rbd_mono _) (okG_name 2) (Same.refl _) hD (SqT.of hs) (by rw [List.length_map, sizeLine_eq]; omega) (fun y hy => ?_) ?_
    · intro H3 acc Ky s3 hD3 ky
      obtain ⟨x, hx, rfl⟩ := List.mem_map.mp hy
      exact ⟨rfl, _, rfl, three_ok, fun p hp => ky _ _ (same_new hp) ⟨p, ("byte", x, 0), rfl, hide_new hD3 hp, x, rfl, rfl⟩⟩
    · intro H2 ys s2 hD2 hp2
      obtain ⟨bas, bs, rfl, hb1, g1⟩ := rbd_split hp2
      have e1 := own1 g1
      subst e1
      have s02 := s1.trans s2
      refine ⟨_, rfl, D, _, rfl, .inr (SqL.of hD2), ?_⟩
      refine ⟨_, rfl, ta, rfl, ⟨_, SqT.of (s02 _ _ ht)⟩, fun D2 hDn => ?_⟩
      refine lcm_tup (xs := as.map V.ref) (H0 := H2) (R := RBd fun x b => ∃ a, x = V.ref a ∧ ∀ k, KdAt C.kind H a k → b = (("align " : Str) ++ k.1, ("size " : Str) ++ k.1, (0 : Int))) (rbd_mono _) (okG_name 3) (Same.refl _) hDn (SqT.of (s02 _ _ ht)) (by rw [List.length_map, sizeLine_eq]; omega) (fun y hy => ?_) ?_
      · intro H3 acc Ky s3 hD3 ky
        obtain ⟨a, ha, rfl⟩ := List.mem_map.mp hy
        obtain ⟨i, hi⟩ := List.getElem?_of_mem ha
        obtain ⟨k, hkm, hka⟩ := Paired.get hk hi
        obtain ⟨dx, ea⟩ := hka.mono (s02.trans s3)
        have gk := ok.nm k (mem_get hkm)
        have g8 := gk.le
        refine ⟨rfl, _, rfl, ?_, ⟨_, rfl, a, _, dx, _, _, rfl, ea, T.kind.cl, T.nName, rfl, .inl ⟨k.1, rfl, ?_, _, rfl, ?_, ?_⟩⟩⟩
        · rw [str_nil_app]; exact Nat.le_trans (by decide) size9
        · exact Nat.le_trans gk.le (Nat.le_trans (by decide) size9)
        · rw [str_nil_app, align_len, sizeLine_eq]; omega
        · refine ⟨_, rfl, ?_, ⟨_, rfl, a, _, dx, _, _, rfl, ea, T.kind.cl, T.nName, rfl, .inl ⟨k.1, rfl, ?_, _, rfl, ?_, ?_⟩⟩⟩
          · rw [str_nil_app]; exact Nat.le_trans (by decide) size9
          · exact Nat.le_trans gk.le (Nat.le_trans (by decide) size9)
          · rw [str_nil_app, size_len, sizeLine_eq]; omega
          · refine ⟨three_ok, fun p hp => ky _ _ (same_new hp) ⟨p, (("align " : Str) ++ k.1, ("size " : Str) ++ k.1, (0 : Int)), rfl, ?_, a, rfl, fun k' hk' => by rw [hka.uniq hk']⟩⟩
            unfold BdAt
            rw [hide_new hD3 hp, str_nil_app, str_nil_app]
      · intro H3 ys s3 hD3 hp3
        obtain ⟨bas2, bs2, rfl, hb2, g2⟩ := rbd_split hp3
        have e2 := own2 hk g2
        subst e2
        have lb1 := hb1.len
        have lb2 := hb2.len
        rw [List.length_map] at lb1 lb2
        refine ⟨D2, _, rfl, .inr (SqL.of hD3), ?_, fun p hp => ?_⟩
        · simp only [List.append_nil, List.length_append, List.length_map]
          rw [sizeLine_eq]; omega
        · refine q p (bas ++ bas2) _ (s02.trans (s3.trans (same_new hp))) ?_ ((hb1.mono (s3.trans (same_new hp))).app (hb2.mono (same_new hp)))
          rw [upd_same, List.append_nil, List.map_append]
def spClosed : Sp := fun vs H Q _ => ∃ tv na ba bas N T bs, vs = [tv, .ref na, .ref ba] ∧ TabAt H tv N T ∧ NmAt H na N ∧ H ba = some (.tup (bas.map V.ref)) ∧ BdsAt H bas bs ∧ N.Nodup ∧ N.length ≤ 7 ∧ KM.In N bs ∧
  ∀ v H', Same H H' → TabAt H' v N (KM.tights N T bs) → Q v H'
theorem ok_closed (G : Fd P w K mg base CX0 1 "tightened" spTight) (F : FnDf K "closed" "closed" s_closed f fd) : FnOk P w K mg base CX0 2 f fd p_closed spClosed := by
  refine F.ok sc_closed (fun vs H Q E h => ?_) (fun cdv A outer s H vs Q E hr h => ?_)
  · obtain ⟨tv, na, ba, bas, N, T, bs, rfl, _⟩ := h; rfl
  · obtain ⟨tv, na, ba, bas, N, T, bs, rfl, hT, hN, hb, hbs, nd, nl, hin, q⟩ := h
    have hu := hu_of hr
    have n := sc_closed.nd
    refine ⟨_, PSs.nox (pss_cons (ps_set (i := 3) n rfl (.inl rfl) (pv 0))
      (pss_cons (ps_for PassesOwn.never rfl (pi_tup (pv 2)) (pg_name (i := 4) n rfl (.inl rfl))
        (pss_one (ps_set (i := 3) n rfl (.inl rfl) (pe_d G (hr.mono (by decide)) pass0 (pa_cons (pv 3) (pa_cons (pv 1) (pa_cons (pv 4) pa_nil)))))))
      (pss_one (ps_ret (pv 3))))), ?_⟩
    have lb := hbs.len
    refine ⟨_, rfl, _, rfl, ba, rfl, ⟨_, SqT.of hb⟩, ?_⟩
    refine for_tup (K := K) (a := ba) (xs := bas.map V.ref) (fun m σ' H' => ∃ v x, σ' = [some tv, some (.ref na), some (.ref ba), some v, x] ∧ Same H H' ∧ TabAt H' v N (KM.tights N T (bs.take m)))
      ⟨tv, none, rfl, Same.refl _, hT⟩ (fun m σ' H' _ ⟨_, _, _, s, _⟩ => SqT.of (s _ _ hb)) ?_ ?_
    · rintro m x0 σ' H' hx ⟨v, x, rfl, s1, h1⟩
      obtain ⟨a, ha, rfl⟩ := get_ref hx
      obtain ⟨⟨i, j, c⟩, hb1, hb2⟩ := hbs.get ha
      obtain ⟨hi, hj⟩ := hin _ (mem_get hb1)
      refine ⟨_, rfl, _, rfl, _, rfl, v, na, a, N, _, i, j, c, rfl, h1, s1 _ _ hN, s1 _ _ hb2, nd, nl, hi, hj, fun v' H2 s2 h2 => ⟨v', _, rfl, s1.trans s2, ?_⟩⟩
      rw [take_get hb1]
      unfold KM.tights at h2 ⊢
      rw [List.foldl_append]
      exact h2
    · rintro σ' H' ⟨v, x, rfl, s1, h1⟩
      rw [List.length_map, lb, List.take_length] at h1
      exact ⟨_, rfl, q _ _ s1 h1⟩
end
end KD
set_option Elab.async false
set_option linter.all false
set_option maxRecDepth 100000
set_option maxHeartbeats 4000000
namespace KR
open PySem PySem.Spec PyProof.Rows L2
/-- d[k] = v by a comprehension, k a tuple -/
theorem dT_set {X : Cx} {pins : List (Addr × Obj)} {σ : L2.St} {H : Hp} {s : Shared} {E : Value → Shared → Prop} {D b : Addr} {kvs : List (List Key × V)} {k : List Key} {v : V} {u r : Value} {Q : Unit → Shared → Prop} (hu : X.A.units < cLine) (I : Inv X pins σ H s)
    (hD : H D = some (.dT kvs)) (hb : H b = some (.tup (k.map kV))) (hz : kvs.length < sizeLine) (ry : RelV (.ref b) u) (rv : RelV v r) (h : ∀ s', Inv X pins σ (upd H D (.dT (putK kvs k v))) s' → Q () s') : wpAny (model X.prog X.w) X.A (dictSet D u r) Q E s := by
  obtain rfl : u = Value.ref b := ry
  obtain ⟨z, hd, xs, rel, dd⟩ := dt_of I.hok hD
  have hzv : xs.length ≤ sizeLine := by rw [← Paired.length rel]; exact z
  have hl : (putK kvs k v).length ≤ sizeLine := by have := length_putK kvs k v; omega
  refine wpAny_dictSet_heap (hsz := hzv) (knd := tupleKind (mixKind X.prog X.w)) (show (tupleKind (mixKind X.prog X.w)).room X.A from hu) (key_of I.hok hb) dd fun h' dd' hs => h _ ?_
  obtain ⟨q, es, ep, hq, h2, h3, h4, _, h5⟩ := dd'
  refine d_write I (by rw [hD]; exact True.intro) hs ⟨q, hq⟩ ⟨hl, hd, _, (rel.put k hb rv).keeps fun c ys ec => ?_, q, es, ep, hq, h2, h3, h4, h5⟩
  rw [upd_ne (ne_of ec hD (fun z => nomatch z))]
  exact ec
section
variable {X : Cx}
/-- {(e, ..): v for target in iter if ..}: D the new dict -/
def tDcT (wi : TI) (g : TG) (tt : TT) (tk tv : TE) (vs : List Nat) : TE := fun σ H Q => wi σ H fun J H1 => ∀ D, H1 D = none → ∃ W : Nat → Nat → Hp → Prop, (∃ m, W 0 m (upd H1 D (.dT []))) ∧ ∀ i m H, W i m H →
  (J.stop i H ∧ Q (.ref D) H) ∨ (J.go i H ∧ ∃ Nx : Hp → Prop, (∀ H', Nx H' → ∃ m', m' < m ∧ W (i + 1) m' H') ∧ ∀ x H', J.yld i H x H' → g x (wipe σ vs) H' fun σ2 H2 => wipe σ2 vs = wipe σ vs ∧ tt σ2 H2 fun b H3 =>
    if b = true then tk σ2 H3 fun y H4 => tv σ2 H4 fun z H5 => ∃ kvs k q, y = .ref q ∧ H5 q = some (.tup (k.map kV)) ∧ H5 D = some (.dT kvs) ∧ kvs.length < sizeLine ∧ Nx (upd H5 D (.dT (putK kvs k z))) else Nx H3)
theorem dcT_core {pins : List (Addr × Obj)} {s : Shared} {σ : L2.St} {H : Hp} {Q : VK} {kx vx tg iter : Expr} {ifs : List Expr} {scope : Scope} {own : List (Str × Nat)} {pos pos' : Pos} {wi : TI} {g : TG} {tt : TT} {tk tv : TE} {use : Option (Value → Sem Unit)} {Qf : Value → Shared → Prop}
    (hu : X.A.units < cLine) (hc : X.calm = true) (hN : X.N.Nodup) (I : Inv X pins σ H s) (hi : PI X tg iter wi) (ok : BlkOk X.N X.env.scope scope own)
    (hg : ∀ (s : Shared) (H : Hp) (C : Addr) (cl : List (Str × Addr)) (fp : List Addr), PG (X.blk s H scope (compEnvC scope cl C X.env) fp) tg g) (ht : ∀ (s : Shared) (H : Hp) (C : Addr) (cl : List (Str × Addr)) (fp : List Addr), PTs (X.blk s H scope (compEnvC scope cl C X.env) fp) ifs tt)
    (hk : ∀ (s : Shared) (H : Hp) (C : Addr) (cl : List (Str × Addr)) (fp : List Addr), PE (X.blk s H scope (compEnvC scope cl C X.env) fp) kx tk)
    (he : ∀ (s : Shared) (H : Hp) (C : Addr) (cl : List (Str × Addr)) (fp : List Addr), PE (X.blk s H scope (compEnvC scope cl C X.env) fp) vx tv) (hs : ∀ x, foldedSetIterable iter X.env x = pure x)
    (h : tDcT wi g tt tk tv (own.map (·.2)) σ H Q)
    (hRR : ∀ D C s' m H', Inv X pins σ H' s' → Q (.ref D) H' → s'.heap.Ns C m → FpOk X pins H' C → compPost (model X.prog X.w) X.A X.xe use Qf (.ref D) C (.ok .next) s') :
    wpAny (model X.prog X.w) X.A (comprehension (.DictComp kx vx [⟨tg, iter, ifs, 0⟩] scope pos) scope X.env pos' newDict false (eval iter X.env) use) Qf X.xe s := by
  have hfree : ∀ y ∈ scope.names, y.2 = .free → ∃ c, X.env.cells.lookup y.1 = some c := fun y hy e => by
    rcases ok.free y hy e with k | k
    · exact I.ok.has _ (.inl k)
    · exact I.ok.has _ (.inr k)
  refine wpAny_comprehension_free (use := use) rfl hs (closure_ok hfree) ok.kind (fun y hy e => by rw [ok.uniq y hy, e])
    (thn (hi.run pins s σ H _ I h) fun xv s1 hx => thn hx fun itv s2 h2 => ?_)
  obtain ⟨it, fp, tn, J, H2, e, I2, T, st2, f2, q⟩ := h2
  subst e
  refine wpAny_newObj_type (newEnv_comp ?_)
  generalize hD : s2.heap.objs.size = D
  have hDn : H2 D = none := I2.hok.fresh (Nat.le_of_eq hD)
  obtain ⟨W, ⟨m0, w0⟩, turn⟩ := q D hDn
  -- the new list
  generalize hs3 : ({ s2 with heap := s2.heap.push { cls := .type "dict", data := .dict #[] } } : Shared) = s3
  have I3 : Inv X pins σ (upd H2 D (.dT [])) s3 := by
    rw [← hs3]
    refine I2.laid (t' := s2.toks) (fun b o e => Heap.get?_push_of_some _ e) (Nat.le_of_eq hD) ?_
    rw [← hD]
    exact dt_empty s2.heap I2.big
  have h3 : s3.heap = s2.heap.push { cls := .type "dict", data := .dict #[] } := by rw [← hs3]
  have sz : ∀ b ∈ fp, b < s2.heap.objs.size := fun b hb => by
    obtain ⟨o, e, _⟩ := T.obj _ _ st2 b hb
    exact Heap.lt_size e
  have f3 : ∀ b ∈ fp, FpOk X pins (upd H2 D (.dT [])) b ∧ b < s3.heap.objs.size := fun b hb => by
    have hlt := sz b hb
    refine ⟨⟨?_, (f2 b hb).2⟩, by rw [h3, Heap.size_push]; exact Nat.lt_succ_of_lt hlt⟩
    rw [upd_ne (by rw [← hD]; exact Nat.ne_of_lt hlt)]
    exact (f2 b hb).1
  have st3 : tn 0 s3.heap := T.keep _ _ _ st2 fun b _ o e => by rw [h3]; exact Heap.get?_push_of_some _ e
  have I4 := block_start I3 ok hN f3
  have pg := hg s3 (upd H2 D (.dT [])) s3.heap.objs.size (cellsFrom (s3.heap.objs.size + 1) scope.names (cloFrom X.env.cells scope.names [])) fp
  have pt := ht s3 (upd H2 D (.dT [])) s3.heap.objs.size (cellsFrom (s3.heap.objs.size + 1) scope.names (cloFrom X.env.cells scope.names [])) fp
  have pk := hk s3 (upd H2 D (.dT [])) s3.heap.objs.size (cellsFrom (s3.heap.objs.size + 1) scope.names (cloFrom X.env.cells scope.names [])) fp
  have pe := he s3 (upd H2 D (.dT [])) s3.heap.objs.size (cellsFrom (s3.heap.objs.size + 1) scope.names (cloFrom X.env.cells scope.names [])) fp
  show codeAny _ _ (.compStart (.DictComp kx vx [⟨tg, iter, ifs, 0⟩] scope pos) 0 (.ref it) (.ref D) (compEnvC scope (cellsFrom (s3.heap.objs.size + 1) scope.names (cloFrom X.env.cells scope.names [])) s3.heap.objs.size X.env)) (compPost (model X.prog X.w) X.A X.xe use Qf (.ref D) s3.heap.objs.size) { s3 with heap := pushCells (s3.heap.push { cls := .type "dict", data := .dict #[] }) scope.names }
  have nfp : ∀ b ∈ fp, (upd H2 D (.dT [])) b = none := fun b hb => (f3 b hb).1.1
  generalize hce : compEnvC scope (cellsFrom (s3.heap.objs.size + 1) scope.names (cloFrom X.env.cells scope.names [])) s3.heap.objs.size X.env = ce at I4 pg pt pk pe ⊢
  have cL : ce.locals = s3.heap.objs.size := by subst hce; rfl
  generalize hH3 : upd H2 D (.dT []) = H3 at I3 I4 pg pt pk pe w0 nfp f3
  generalize hs4 : ({ s3 with heap := pushCells (s3.heap.push { cls := .type "dict", data := .dict #[] }) scope.names } : Shared) = s4 at I4 ⊢
  have st4 : tn 0 s4.heap := T.keep _ _ _ st3 fun b _ o e => by rw [← hs4]; exact pushCells_keeps _ _ _ _ (Heap.get?_push_of_some _ e)
  have stat : ∀ {σ' : L2.St} {H' : Hp} {s' : Shared}, Inv (X.blk s3 H3 scope ce fp) [] σ' H' s' → (∀ b ∈ fp, H' b = none) → ∀ b ∈ fp, FpOk (X.blk s3 H3 scope ce fp) [] H' b := fun {σ' H' s'} I' hn b hb =>
    ⟨hn b hb, (I'.ok.exf b hb).1, I'.ok.exfs b hb, .inl hb, fun x c e => (I'.ok.exf b hb).2 x c e, fun p hp => absurd (show p ∈ ([] : List (Addr × Obj)) ++ [] from hp) (by simp)⟩
  have loop : codeAny (model X.prog X.w) X.A (.compLoop (.DictComp kx vx [⟨tg, iter, ifs, 0⟩] scope pos) 0 (.ref it) (.ref D) ce) (compPost (model X.prog X.w) X.A X.xe use Qf (.ref D) s3.heap.objs.size) s4 := by
    refine compLoop_anyD (fun n s' => ∃ i H', Inv (X.blk s3 H3 scope ce fp) [] (wipe σ (own.map (·.2))) H' s' ∧ tn i s'.heap ∧ (∀ b ∈ fp, H' b = none) ∧ W i n H') ?_ m0 ⟨0, H3, I4, st4, nfp, w0⟩
    rintro n s5 ⟨i, H5, I5, st5, n5, w5⟩
    rcases turn i n H5 w5 with ⟨stop, qq⟩ | ⟨go, Nx, hNx, step⟩
    · have td := T.done (X.blk s3 H3 scope ce fp) rfl rfl rfl hc i [] s5 _ H5 (fun _ _ => False) I5 (stat I5 n5) st5 stop
      refine thnF td fun r s6 ⟨hr, I6⟩ => ?_
      subst hr
      -- back in the def's context
      have I7 : Inv X pins σ H5 s6 := I3.call' (ch := fp) I6.os I6.base I6.hok I6.bare fun b hb => ⟨(f3 b hb).1.2.2.2.1, (f3 b hb).1.2.1, (f3 b hb).1.2.2.2.2.1, (f3 b hb).1.2.2.2.2.2⟩
      have nC : H5 s3.heap.objs.size = none := by
        have z : H5 ce.locals = none := I6.free
        rw [cL] at z
        exact z
      obtain ⟨m, hn, _⟩ := I6.loc
      have hn : s6.heap.Ns ce.locals m := hn
      rw [cL] at hn
      exact hRR D s3.heap.objs.size s6 m H5 I7 qq hn (I3.fpOk (Nat.le_refl _) nC)
    · have ti := T.item (X.blk s3 H3 scope ce fp) rfl rfl rfl hc i [] s5 _ H5 (fun _ _ => False) I5 (stat I5 n5) st5 go
      refine thnF ti fun r s6 ⟨u, hr, h6⟩ => ?_
      subst hr
      refine thnF h6 fun _ s7 ⟨x, H7, I7, r7, y7, st7, n7⟩ => ?_
      have I7' := I7.pinned (stat I7 n7) (T.obj _ _ st7)
      refine thnF (pg.run _ s7 _ H7 x u _ I7' r7 (step x H7 y7)) fun _ s8 ⟨σ8, H8, I8, hw8, q8⟩ => ?_
      refine thnF (pt.run _ s8 σ8 H8 _ I8 q8) fun b s9 ⟨H9, I9, q9⟩ => ?_
      -- the turn's end
      have fin : ∀ {s' : Shared} {H' : Hp}, Inv (X.blk s3 H3 scope ce fp) ([] ++ pinsAt fp s7.heap) σ8 H' s' → Nx H' → ∃ m, m < n ∧ ∃ i H', Inv (X.blk s3 H3 scope ce fp) [] (wipe σ (own.map (·.2))) H' s' ∧ tn i s'.heap ∧ (∀ b ∈ fp, H' b = none) ∧ W i m H' := fun {s' H'} I' nx => by
        obtain ⟨m', hm, w'⟩ := hNx H' nx
        have pin' : ∀ b ∈ fp, ∀ o, s7.heap.get? b = some o → s'.heap.get? b = some o ∧ H' b = none := fun b hb o e =>
          let z := I'.pin (b, o) (List.mem_append_right _ (List.mem_append_right _ (mem_pinsAt hb e)))
          ⟨z.1, z.2.1⟩
        have hl : (wipe σ (own.map (·.2))).length = σ8.length := by rw [← hw8, wipe_length]
        refine ⟨m', hm, i + 1, H', (I'.unpinned (pins := [])).weak hl (fun j v e => ?_), T.keep _ _ _ st7 fun b hb o e => (pin' b hb o e).1, fun b hb => ?_, w'⟩
        · rw [← hw8] at e
          exact (wipe_some e).1
        · obtain ⟨o, e, _⟩ := T.obj _ _ st7 b hb
          exact (pin' b hb o e).2
      cases b with
      | false =>
        simp only [Bool.false_eq_true, if_false] at q9 ⊢
        exact fin I9 q9
      | true =>
        simp only [if_true] at q9 ⊢
        refine thnF (pk.run _ s9 σ8 H9 _ I9 q9) fun z s10 ⟨yk, H10, I10, r10, q10⟩ => ?_
        refine thnF (pe.run _ s10 σ8 H10 _ I10 q10) fun z2 s11 ⟨yv, H11, I11, r11, kvs, k, q0, ek, hq11, hD11, hz11, nx⟩ => ?_
        subst ek
        exact dT_set (X := X.blk s3 H3 scope ce fp) hu I11 hD11 hq11 hz11 r10 r11 fun s12 I12 => fin I12 nx
  exact codeAny_compStart_dict loop (T.self X.A 0 _ _ _ st4 loop)
theorem pe_dcT {kx vx tg iter : Expr} {ifs : List Expr} {scope : Scope} {own : List (Str × Nat)} {pos : Pos} {wi : TI} {g : TG} {tt : TT} {tk tv : TE} (hu : X.A.units < cLine) (hc : X.calm = true) (hN : X.N.Nodup) (hi : PI X tg iter wi) (ok : BlkOk X.N X.env.scope scope own)
    (hg : ∀ (s : Shared) (H : Hp) (C : Addr) (cl : List (Str × Addr)) (fp : List Addr), PG (X.blk s H scope (compEnvC scope cl C X.env) fp) tg g) (ht : ∀ (s : Shared) (H : Hp) (C : Addr) (cl : List (Str × Addr)) (fp : List Addr), PTs (X.blk s H scope (compEnvC scope cl C X.env) fp) ifs tt)
    (hk : ∀ (s : Shared) (H : Hp) (C : Addr) (cl : List (Str × Addr)) (fp : List Addr), PE (X.blk s H scope (compEnvC scope cl C X.env) fp) kx tk)
    (he : ∀ (s : Shared) (H : Hp) (C : Addr) (cl : List (Str × Addr)) (fp : List Addr), PE (X.blk s H scope (compEnvC scope cl C X.env) fp) vx tv) (hs : ∀ x, foldedSetIterable iter X.env x = pure x := by intro _; rfl) :
    PE X (.DictComp kx vx [⟨tg, iter, ifs, 0⟩] scope pos) (tDcT wi g tt tk tv (own.map (·.2))) := by
  refine ⟨fun pins s σ H Q I h => ?_⟩
  rw [arm_eval_DictComp]
  refine dcT_core hu hc hN I hi ok hg ht hk he hs h fun D C s' m H' I' q hn f => ⟨m, hn, fun h'' sb => ?_⟩
  obtain ⟨f0, f1, f2, f3, f4, f5⟩ := f
  exact ⟨.ref D, H', I'.turned (t' := s'.toks) (fun b o hb e => (sb.2 b hb).trans e) f0 f1 f3 f4 f5, rfl, q⟩
theorem dcT_it {J : It} {n : Nat} {G : Hp → Prop} {Y : Nat → Hp → V → Hp → Prop} (w : Walk J n G Y) {g : TG} {tt : TT} {tk tv : TE} {vs : List Nat} {σ : L2.St} {H1 : Hp} {D : Addr} {Qd : Hp → Prop} (Pv : Nat → Hp → Prop) (h0 : Pv 0 (upd H1 D (.dT []))) (hG : ∀ i H, i ≤ n → Pv i H → G H)
    (hs : ∀ i x H H', i < n → Pv i H → Y i H x H' → g x (wipe σ vs) H' fun σ2 H2 => wipe σ2 vs = wipe σ vs ∧ tt σ2 H2 fun b H3 =>
      if b = true then tk σ2 H3 fun y H4 => tv σ2 H4 fun z H5 => ∃ kvs k q, y = .ref q ∧ H5 q = some (.tup (k.map kV)) ∧ H5 D = some (.dT kvs) ∧ kvs.length < sizeLine ∧ Pv (i + 1) (upd H5 D (.dT (putK kvs k z))) else Pv (i + 1) H3) (hd : ∀ H, Pv n H → Qd H) :
    ∃ W : Nat → Nat → Hp → Prop, (∃ m, W 0 m (upd H1 D (.dT []))) ∧ ∀ i m H, W i m H →
      (J.stop i H ∧ Qd H) ∨ (J.go i H ∧ ∃ Nx : Hp → Prop, (∀ H', Nx H' → ∃ m', m' < m ∧ W (i + 1) m' H') ∧ ∀ x H', J.yld i H x H' → g x (wipe σ vs) H' fun σ2 H2 => wipe σ2 vs = wipe σ vs ∧ tt σ2 H2 fun b H3 =>
        if b = true then tk σ2 H3 fun y H4 => tv σ2 H4 fun z H5 => ∃ kvs k q, y = .ref q ∧ H5 q = some (.tup (k.map kV)) ∧ H5 D = some (.dT kvs) ∧ kvs.length < sizeLine ∧ Nx (upd H5 D (.dT (putK kvs k z))) else Nx H3) := by
  refine ⟨fun i m H => m = n - i ∧ i ≤ n ∧ Pv i H, ⟨n, by simp, Nat.zero_le _, h0⟩, ?_⟩
  rintro i m H ⟨rfl, hi, p⟩
  by_cases hlt : i < n
  · exact .inr ⟨w.goes i H hlt (hG i H hi p), Pv (i + 1), fun H' p' => ⟨n - (i + 1), by omega, rfl, hlt, p'⟩, fun x H' y => hs i x H H' hlt p (w.yields i H x H' hlt (hG i H hi p) y)⟩
  · have e : i = n := by omega
    subst e
    exact .inl ⟨w.stops H (hG _ H hi p), hd H p⟩
end
end KR
set_option Elab.async false
set_option linter.all false
set_option maxRecDepth 100000
set_option maxHeartbeats 4000000
namespace KD
open PySem PySem.Spec PyProof.Rows L2 KT KR
/-- turns of a walk, whatever its body -/
theorem lp_it {J : It} {n : Nat} {G : Hp → Prop} {Y : Nat → Hp → V → Hp → Prop} (w : Walk J n G Y) {Bd : V → Hp → (Hp → Prop) → Prop} {Nx : Hp → Prop} {H : Hp} (Pv : Nat → Hp → Prop) (h0 : Pv 0 H) (hG : ∀ i H, i ≤ n → Pv i H → G H)
    (hs : ∀ i x H H', i < n → Pv i H → Y i H x H' → Bd x H' (Pv (i + 1))) (hd : ∀ H, Pv n H → Nx H) :
    ∃ W : Nat → Nat → Hp → Prop, (∃ m, W 0 m H) ∧ ∀ i m H, W i m H → (J.stop i H ∧ Nx H) ∨ (J.go i H ∧ ∃ N1 : Hp → Prop, (∀ H', N1 H' → ∃ m', m' < m ∧ W (i + 1) m' H') ∧ ∀ x H', J.yld i H x H' → Bd x H' N1) := by
  refine ⟨fun i m H => m = n - i ∧ i ≤ n ∧ Pv i H, ⟨n, by simp, Nat.zero_le _, h0⟩, ?_⟩
  rintro i m H ⟨rfl, hi, p⟩
  by_cases hlt : i < n
  · exact .inr ⟨w.goes i H hlt (hG i H hi p), Pv (i + 1), fun H' p' => ⟨n - (i + 1), by omega, rfl, hlt, p'⟩, fun x H' y => hs i x H H' hlt p (w.yields i H x H' hlt (hG i H hi p) y)⟩
  · have e : i = n := by omega
    subst e
    exact .inl ⟨w.stops H (hG _ H hi p), hd H p⟩
theorem u_yes {σ : L2.St} {H : Hp} {R : Bool → Hp → Prop} (h : R true H) : tYes σ H R := h
def diffRow (T : Tb) (i : Str) (js : List Str) : List Bd := js.filterMap fun j => if i = j then none else (T i j).map fun c => (i, j, c)
def diffs (N : List Str) (T : Tb) (is : List Str) : List Bd := is.flatMap fun i => diffRow T i N
section
variable {P : Program} {w : World} {K : PySem.W.Frag} {mg : Str → Option Value} {base : Heap} {f : Addr} {fd : FuncData} {C : Kd}
def spFree : Sp := fun vs H Q _ => ∃ na N, vs = [.ref na] ∧ NmAt H na N ∧ N.length ≤ 7 ∧ ∀ v H', Same H H' → TabAt H' v N (some (KM.free N)) → Q v H'
theorem Rep.congr {N : List Str} {kvs : List (List Key × V)} {T T' : Tb} (r : Rep N kvs T) (h : ∀ x y, T x y = T' x y) : Rep N kvs T' := ⟨r.nd, r.ent, fun x y => by rw [r.val, h]⟩
theorem ok_free_table (F : FnDf K "free_table" "free_table" s_free_table f fd) : FnOk P w K mg base CX0 1 f fd p_free_table spFree := by
  refine F.ok sc_free_table (fun vs H Q E h => ?_) (fun cdv A outer s H vs Q E hr h => ?_)
  · obtain ⟨na, N, rfl, _⟩ := h; rfl
  · obtain ⟨na, N, rfl, hN, nl, q⟩ := h
    have hu := hu_of hr
    have n := sc_free_table.nd
    refine ⟨_, PSs.nox (pss_one (ps_ret (pe_dcT (own := [("name", 1)]) (g := gName 1) hr.units0 rfl n (pi_tup (pv 0)) (blkOk_by (N := n_free_table) (sc := defScope s_free_table) (by decide +kernel)) (fun _ _ _ _ _ => (pg_name (i := 1) n rfl (.inl rfl))) (fun _ _ _ _ _ => pts_nil)
      (fun _ _ _ _ _ => (pe_tup (pa_cons (pv 1) (pa_cons (pv 1) pa_nil)))) (fun _ _ _ _ _ => pe_int)))), ?_⟩
    refine ⟨_, rfl, na, rfl, ⟨_, SqT.of hN⟩, fun D hD => ?_⟩
    refine dcT_it (walk_tup (xs := N.map V.str)) (fun m H' => Same H H' ∧ ∃ kvs, H' D = some (.dT kvs) ∧ Rep N kvs (fun x y => if x = y ∧ x ∈ N.take m then some 0 else none)) ⟨same_new hD, [], upd_same, (Rep.nil N).congr fun x y => by simp⟩ (fun m H' _ h => SqT.of (h.1 _ _ hN)) ?_ ?_
    · rintro m x0 H1 H2 hm ⟨s1, kvs, h1, r1⟩ ⟨rfl, hx⟩
      obtain ⟨x, hx1, rfl⟩ := get_map hx
      have hxN := mem_get hx1
      refine ⟨rfl, u_yes ?_⟩
      refine ift rfl ⟨_, rfl, _, rfl, two_ok, fun p hp => ?_⟩
      have s2 := same_new (o := .tup [.str x, .str x]) hp
      refine ⟨kvs, ky x x, p, rfl, upd_same, s2 _ _ h1, ?_, same_mut (s1.trans s2) hD, _, upd_same, (r1.put hxN hxN).congr fun a b => ?_⟩
      · have := r1.len nl
        rw [sizeLine_eq]; omega
      · unfold KM.setT
        rw [take_get hx1]
        by_cases e : a = x ∧ b = x
        · rw [if_pos e, if_pos ⟨e.1.trans e.2.symm, by rw [e.1]; simp⟩]
        · rw [if_neg e]
          show (if a = b ∧ a ∈ N.take m then some (0 : Int) else none) = _
          by_cases e2 : a = b ∧ a ∈ N.take m
          · rw [if_pos e2, if_pos ⟨e2.1, List.mem_append_left _ e2.2⟩]
          · rw [if_neg e2, if_neg fun q => ?_]
            rcases List.mem_append.mp q.2 with z | z
            · exact e2 ⟨q.1, z⟩
            · have z := List.mem_singleton.mp z
              exact e ⟨z, by rw [← q.1, z]⟩
    · rintro H1 ⟨s1, kvs, h1, r1⟩
      rw [List.length_map, List.take_length] at r1
      exact q _ _ s1 ⟨D, kvs, rfl, h1, r1⟩
def spDiff : Sp := fun vs H Q _ => ∃ d kvs T na N, vs = [.ref d, .ref na] ∧ H d = some (.dT kvs) ∧ Rep N kvs T ∧ NmAt H na N ∧ N.length ≤ 7 ∧
  ∀ l bas H', Same H H' → H' l = some (.lst (bas.map V.ref)) → BdsAt H' bas (diffs N T N) → Q (.ref l) H'
theorem diffRow_len (T : Tb) (i : Str) (js : List Str) : (diffRow T i js).length ≤ js.length := List.length_filterMap_le _ _
theorem diffs_len (N : List Str) (T : Tb) : ∀ is : List Str, (diffs N T is).length ≤ is.length * N.length
  | [] => by simp [diffs]
  | i :: r => by
    have h1 := diffs_len N T r
    have h2 := diffRow_len T i N
    have e : diffs N T (i :: r) = diffRow T i N ++ diffs N T r := rfl
    rw [e, List.length_append, List.length_cons, Nat.add_mul, Nat.one_mul]
    omega
theorem diffs_take {N : List Str} {T : Tb} {is : List Str} {m : Nat} {i : Str} (h : is[m]? = some i) : diffs N T (is.take (m + 1)) = diffs N T (is.take m) ++ diffRow T i N := by
  rw [take_get h]; simp [diffs]
theorem diffRow_take {T : Tb} {i j : Str} {js : List Str} {l : Nat} (h : js[l]? = some j) : diffRow T i (js.take (l + 1)) = diffRow T i (js.take l) ++ (if i = j then none else (T i j).map fun c => (i, j, c)).toList := by
  rw [take_get h]; unfold diffRow; rw [List.filterMap_append]; rfl
theorem ok_differences (F : FnDf K "differences" "differences" s_differences f fd) : FnOk P w K mg base CX0 1 f fd p_differences spDiff := by
  refine F.ok sc_differences (fun vs H Q E h => ?_) (fun cdv A outer s H vs Q E hr h => ?_)
  · obtain ⟨d, kvs, T, na, N, rfl, _⟩ := h; rfl
  · obtain ⟨d, kvs, T, na, N, rfl, hd, R, hN, nl, q⟩ := h
    have hu := hu_of hr
    have n := sc_differences.nd
    refine ⟨_, PSs.nox (pss_one (ps_ret (pe_lc2 (own := [("i", 2), ("j", 3)]) (g := gName 2) (g1 := gName 3) (vs1 := [3]) (wi1 := iTup K (tVar 1)) rfl n (pi_tup (pv 1)) (blkOk_by (N := n_differences) (sc := defScope s_differences) (by decide +kernel)) (by decide) (fun _ _ _ _ _ => (pg_name (i := 2) n rfl (.inl rfl))) (fun _ _ _ _ _ => pts_nil) (fun _ _ _ _ _ => (pi_tup (pv 1))) (fun _ _ _ _ _ => (pg_name (i := 3) n rfl (.inl rfl))) (fun _ _ _ _ _ => (pts_one (PW.pt (pw_and (pt_cmpR op_ne (pv 2) (pv 3) (nomark _)) (pw_and1 (pt_cmp (pc_din hu (pe_tup (pa_cons (pv 2) (pa_cons (pv 3) pa_nil))) (pv 0)) (by rfl))))))) (fun _ _ _ _ _ => (pe_tup (pa_cons (pv 2) (pa_cons (pv 3) (pa_cons (pe_dget hu (pv 0) (pe_tup (pa_cons (pv 2) (pa_cons (pv 3) pa_nil))) (fun _ _ => rfl)) pa_nil)))))))), ?_⟩
    refine ⟨_, rfl, na, rfl, ⟨_, SqT.of hN⟩, fun D hD => ?_⟩
    refine lp_it (walk_tup (xs := N.map V.str)) (fun m H' => Same H H' ∧ ∃ bas, H' D = some (.lst (bas.map V.ref)) ∧ BdsAt (hide D H') bas (diffs N T (N.take m))) ⟨same_new hD, [], upd_same, by rw [List.take_zero]; exact .nil⟩ (fun m H' _ h => SqT.of (h.1 _ _ hN)) ?_ ?_
    · rintro m x0 H1 H2 hm ⟨s1, bas, h1, b1⟩ ⟨rfl, hx⟩
      obtain ⟨x, hx1, rfl⟩ := get_map hx
      refine ⟨rfl, u_yes ?_⟩
      refine ift rfl ⟨_, rfl, na, rfl, ⟨_, SqT.of (s1 _ _ hN)⟩, ?_⟩
      refine lp_it (walk_tup (xs := N.map V.str)) (fun l H' => Same H H' ∧ ∃ bas, H' D = some (.lst (bas.map V.ref)) ∧ BdsAt (hide D H') bas (diffs N T (N.take m) ++ diffRow T x (N.take l))) ⟨s1, bas, h1, by rw [List.take_zero]; simpa [diffRow] using b1⟩ (fun m H' _ h => SqT.of (h.1 _ _ hN)) ?_ ?_
      · rintro l y0 H3 H4 hl ⟨s3, bas3, h3, b3⟩ ⟨rfl, hy⟩
        obtain ⟨y, hy1, rfl⟩ := get_map hy
        refine ⟨rfl, ?_⟩
        have len := b3.len
        have l1 := diffs_len N T (N.take m)
        have l2 := diffRow_len T x (N.take l)
        rw [List.length_append] at len
        rw [List.length_take] at l1 l2
        have l3 : min m N.length * N.length ≤ 7 * 7 := Nat.mul_le_mul (by omega) nl
        rw [diffRow_take hy1]
        refine u_and ⟨_, rfl, _, rfl, rfl, _, rfl, ?_⟩
        by_cases e : x = y
        · subst e
          refine iff0 (by simp) (iff0 rfl ⟨s3, bas3, h3, ?_⟩)
          rw [if_pos rfl]
          simpa using b3
        · refine ift (by simpa using e) (u_B (r_in (s3 _ _ hd) fun H5 s5 => ⟨_, rfl, ?_⟩))
          rw [R.in_]
          cases eT : T x y with
          | none =>
            refine iff0 rfl ⟨s3.trans s5, bas3, s5 _ _ h3, ?_⟩
            rw [if_neg e]
            simpa using b3.mono (hide_mono s5)
          | some c =>
            have h5 := s5 _ _ h3
            refine ift rfl ⟨_, rfl, _, rfl, r_get ((s3.trans s5) _ _ hd) (v := .int c) (by rw [R.val, eT]; rfl) fun H6 s6 => ⟨three_ok, fun p hp => ?_⟩⟩
            have s7 := s6.trans (same_new (o := .tup [.str x, .str y, .int c]) hp)
            refine ⟨_, s7 _ _ h5, ?_, same_mut (s3.trans (s5.trans s7)) hD, bas3 ++ [p], ?_, ?_⟩
            · rw [List.length_map, sizeLine_eq]; omega
            · rw [upd_same, List.map_append]; rfl
            · rw [if_neg e, hide_upd, ← List.append_assoc]
              exact (b3.mono (hide_mono (s5.trans s7))).app (.cons (hide_new (s6 _ _ h5) hp) .nil)
      · rintro H3 ⟨s3, bas3, h3, b3⟩
        rw [List.length_map, List.take_length] at b3
        refine ⟨s3, bas3, h3, ?_⟩
        rw [diffs_take hx1]
        exact b3
    · rintro H3 ⟨s3, bas3, h3, b3⟩
      rw [List.length_map, List.take_length] at b3
      exact q _ bas3 _ s3 h3 (b3.mono hide_same)
def spPoint : Sp := fun vs H Q _ => ∃ d kvs sa S, vs = [.ref d, .ref sa] ∧ H d = some (.dK kvs) ∧ NmAt H sa S ∧ kvs.length = S.length ∧ S.length ≤ 6 ∧ (∀ x ∈ S, ∃ i : Int, valV kvs (.inr x) = some (.int i) ∧ 0 ≤ i) ∧ ∀ H', Same H H' → Q (.bl true) H'
theorem all_true : ∀ {xs ys : List V}, Paired (fun _ y => y = V.bl true) xs ys → ys = (ys.map fun _ => true).map V.bl
  | _, _, .nil => rfl
  | _, _, .cons h t => by rw [List.map_cons, List.map_cons, ← all_true t, h]
theorem ok_is_point (B : Blt mg) (G : Fd P w K mg base CX0 1 "is_whole" spWhole) (F : FnDf K "is_point" "is_point" s_is_point f fd) : FnOk P w K mg base CX0 2 f fd p_is_point spPoint := by
  refine F.ok sc_is_point (fun vs H Q E h => ?_) (fun cdv A outer s H vs Q E hr h => ?_)
  · obtain ⟨d, kvs, sa, S, rfl, _⟩ := h; rfl
  · obtain ⟨d, kvs, sa, S, rfl, hd, hS, hl, l6, hv, q⟩ := h
    have hu := hu_of hr
    have n := sc_is_point.nd
    refine ⟨_, PSs.nox (pss_ct (ps_if (PW.pt (pw_or (pt_not (pt_val (pe_callB call_isi (by rfl) B.isinstance (by decide +kernel) (pa_cons (pv 0) (pa_cons (pe_bltn (v := .ty "dict") (by rfl) B.dict (by decide +kernel) rfl) pa_nil))))) (pw_or1 (pt_cmpR op_ne (pe_callB call_lenD (by rfl) B.len (by decide +kernel) (pa_cons (pv 0) pa_nil)) (pe_callB call_len_seq (by rfl) B.len (by decide +kernel) (pa_cons (pv 1) pa_nil)) (nomark _)))))
        (pss_one (ps_ret pe_bl))
        pss_nil)
      (pss_one (ps_ret (pe_callB (cr_all rfl) (by rfl) B.all (by decide +kernel) (pa_cons (pe_lc (own := [("scale", 2)]) (g := gName 2) rfl n (pi_tup (pv 1)) (blkOk_by (N := n_is_point) (sc := defScope s_is_point) (by decide +kernel)) (fun _ _ _ _ _ => (pg_name (i := 2) n rfl (.inl rfl))) (fun _ _ _ _ _ => pts_nil) (fun _ _ _ _ _ => (pe_and (pe_cmp (pc_din hu (pv 2) (pv 0)) (by rfl)) (pe_and (pe_d G (hr.mono (by decide)) pass0 (pa_cons (pe_dget hu (pv 0) (pv 2) (fun _ _ => rfl)) pa_nil)) (pe_one (pe_cmpR op_ge (pe_dget hu (pv 0) (pv 2) (fun _ _ => rfl)) pe_int (nomark _))))))) pa_nil))))), ?_⟩
    refine ⟨fun σ' H' => σ' = [some (.ref d), some (.ref sa), none] ∧ H' = H, ?_, ?_⟩
    · refine u_if (u_or (u_not (u_B ⟨_, rfl, ⟨_, _, _, _, true, rfl, .ty "dict", .base (.dK hd), kit_ty (by decide +kernel), true, rfl, iff0 rfl ?_⟩⟩)))
      refine ⟨_, rfl, d, kvs, rfl, hd, _, rfl, sa, _, rfl, .inr (SqT.of hS), rfl, _, rfl, iff0 ?_ ⟨rfl, rfl⟩⟩
      rw [List.length_map, hl]; simp
    · rintro σ1 H1 ⟨rfl, rfl⟩
      refine ⟨_, rfl, sa, rfl, ⟨_, SqT.of hS⟩, fun D hD => ?_⟩
      refine lcm_tup (xs := S.map V.str) (R := fun _ y _ => y = .bl true) (fun _ _ _ _ _ h => h) (okG_name 2) (Same.refl _) hD (SqT.of hS) (by rw [List.length_map, sizeLine_eq]; omega) (fun y hy => ?_) ?_
      · obtain ⟨x, hx, rfl⟩ := List.mem_map.mp hy
        intro H3 acc Ky s3 hD3 ky
        obtain ⟨i, hi, h0⟩ := hv x hx
        have g : DGet H3 d (.str x) (some (.int i)) := hi ▸ DGet.k (k := .inr x) (s3 _ _ hd)
        refine ⟨rfl, ⟨_, rfl, _, rfl, d, _, rfl, g, true, rfl, ift rfl ?_⟩⟩
        refine ⟨_, rfl, _, rfl, d, _, rfl, g, i, rfl, true, rfl, ift rfl ?_⟩
        refine ⟨_, rfl, _, rfl, d, _, rfl, g, _, _, rfl, rfl, ky _ _ (Same.refl _) (congrArg V.bl (decide_eq_true h0))⟩
      · intro H ys s1 hD1 hp
        have e := all_true hp
        refine ⟨D, ys.map fun _ => true, rfl, .inl (.inl (e ▸ hD1)), ?_⟩
        have a : ((ys.map fun _ => true).all id) = true := by simp
        rw [a]
        exact q _ s1
end
end KD
set_option Elab.async false
set_option linter.all false
set_option maxRecDepth 100000
set_option maxHeartbeats 4000000
namespace PySem.W
open PySem PySem.Calls PyProof.Rows
section
variable {M : Model} {A : Around} {E : Value → Shared → Prop} {s : Shared}
theorem krm_lone {f : Value} {x : Sem Value} {pos : Pos} {kws : List (Option Str × Sem Value)} {Q : Args → Shared → Prop} (hall : kws.all (·.1.isSome) = true)
    (h : wpAny M A x (fun v s₁ => wpAny M A (evalAll (kws.map (·.2))) (fun ks s₂ => StarOf M A E v (fun vs s₃ => Q ⟨vs, (kws.filterMap (·.1)).zip ks⟩ s₃) s₂) E s₁) E s) :
    wpAny M A (evalArgs f true [(true, (do let v ← x; standAt pos; pure v))] kws) Q E s := by
  unfold evalArgs
  refine wpAny_bind (wpAny_bind (wpAny_mono h (fun v s₁ h₁ => wpAny_bind (wpAny_standAt (wpAny_pure ?_))) fun _ _ x => x))
  refine wpAny_holding ?_
  rw [hall]
  simp only [if_true]
  refine wpAny_bind (wpAny_mono h₁ (fun ks s₂ h₂ => ?_) fun _ _ x => x)
  unfold StarOf at h₂
  refine wpAny_bind (wpAny_bind (wpAny_mono h₂ (fun b s₃ h₃ => ?_) fun _ _ x => x))
  obtain ⟨rfl, h₃⟩ := h₃
  have z := wpAny_holding (vs := ((kws.filterMap (·.1)).zip ks).map (·.2)) (wpAny_mono h₃ (fun vs s₄ h₄ => (wpAny_pure h₄ : wpAny M A (pure (⟨vs, (kws.filterMap (·.1)).zip ks⟩ : Args)) Q E s₄)) fun _ _ x => x)
  try simp only [Bool.false_eq_true, if_false]
  first
    | exact z
    | exact wpAny_bind (wpAny_pure z)
theorem krm_call {f : Value} {first : List Value} {pos : Pos} {Q : Value → Shared → Prop} {P : Heap → Prop} {args : List (Bool × Sem Value)} {kws : List (Option Str × Sem Value)} (hst : args.any (·.1) = true)
    (hk : ∀ h, P h → ∃ k, (k = Keeper.frame ∨ k = Keeper.machine ∨ k = Keeper.boundFrame) ∧ Looks M h (keeperOf f) k)
    (h : wpAny M A (evalArgs f true args kws) (fun a s₁ => P s₁.heap ∧ wpAny M A (call f (first ++ a.pos) a.kw) Q E s₁) E s) : wpAny M A (callWith pos f first args kws) Q E s := by
  unfold callWith
  refine wpAny_bind (wpAny_holding (wpAny_mono h (fun a s₁ h₁ => wpAny_bind (wpAny_standAt ?_)) fun _ _ x => x))
  obtain ⟨k, hk', L⟩ := hk _ h₁.1
  simp only [hst, Bool.true_or]
  refine wpAny_bind (L.here ?_)
  have tail : ∀ {t : Sem Value}, wpAny M A t Q E s₁ → wpAny M A (t >>= fun r => holding [r] point >>= fun _ => pure r) Q E s₁ :=
    fun ht => wpAny_bind (wpAny_mono ht (fun r s₂ hr => wpAny_bind (wpAny_holding (wpAny_point (wpAny_pure hr)))) fun _ _ x => x)
  have marked (mk : Value) : wpAny M A (callMarked mk f (first ++ a.pos) a.kw) Q E s₁ := by unfold callMarked; exact Calls.wpAny_keep h₁.2
  rcases hk' with rfl | rfl | rfl <;> dsimp only <;> first | exact tail (marked _) | exact tail (wpAny_operating h₁.2)
theorem krm_SK {K : Frag} {env : Env} {pos p : Pos} {f : Value} {first : List Value} {Q : Value → Shared → Prop} {e : Expr} {kws : List Keyword} (hk : keepIn K f = true) (hall : (backToKw pos (keywordEach kws env)).all (·.1.isSome) = true)
    (h : wpAny M A (eval e env) (fun v s₁ => wpAny M A (evalAll ((backToKw pos (keywordEach kws env)).map (·.2))) (fun ks s₂ => StarOf M A E v (fun vs s₃ => K.In s₃.heap ∧ wpAny M A (call f (first ++ vs) (((backToKw pos (keywordEach kws env)).filterMap (·.1)).zip ks)) Q E s₃) s₂) E s₁) E s)
    (he : starEach [.Starred e p] env = [(true, eval e env)] := by rfl) :
    wpAny M A (callWith pos f first (backTo pos (starEach [.Starred e p] env)) (backToKw pos (keywordEach kws env))) Q E s := by
  rw [he]
  exact krm_call rfl (keeps_K hk) (krm_lone hall h)
end
end PySem.W
namespace KR
open PySem PySem.Spec PyProof.Rows L2
/-- what a def promises for positional values and keyword values -/
abbrev Sp2 := List V → List V → Hp → VK → XK → Prop
def FnKw (P : Program) (w : World) (K : PySem.W.Frag) (mg : Str → Option Value) (base : Heap) (CX : CXT) (k : Nat) (f : Addr) (ks : List Str) (sp : Sp2) : Prop :=
  ∀ (A : Around) (outer : List Env) (s : Shared) (H : Hp) (us ws : List Value) (vs zs : List V) (Q : VK) (E : XK), Room k A → Env0 P w K mg base A outer s H → Vals vs us → Vals zs ws → zs.length = ks.length → sp vs zs H Q E →
    codeAny (model P w) A (.call (.ref f) ⟨us, ks.zip ws⟩) (CR CX outer P w H s Q E) s
section
variable {X : Cx} {CX : CXT} {k : Nat} {f C : Addr} {ks : List Str} {sp : Sp2} {E : XK} {x : Str} {p p2 pos : Pos} {e : Expr} {kws : List Keyword} {te tf : TE} {tk : TA}
theorem run_makeKw {pins : List (Addr × Obj)} {σ : L2.St} {H : Hp} {s : Shared} {Q : VK} {us ws : List Value} {vs zs : List V} (M : Mk X.K C f) (F : FnKw X.prog X.w X.K X.mg X.base CX k f ks sp) (hr : Room (k + 1) X.A) (hx : Passes CX X E) (I : Inv X pins σ H s) (r : Vals vs us) (rz : Vals zs ws)
    (l2 : zs.length = ks.length) (h : ∀ x dx, H x = none → H dx = none → dx ≠ x → sp (.ref x :: vs) zs (upd (upd H dx (.own x)) x (.ins C dx [])) (fun v H2 => v = .non ∧ Q (.ref x) H2) E) :
    wpAny (model X.prog X.w) X.A (call (.ref C) us (ks.zip ws)) (EP X pins σ Q) X.xe s := by
  have hq := h (s.heap.objs.size + 1) s.heap.objs.size (I.hok.fresh (Nat.le_succ _)) (I.hok.fresh (Nat.le_refl _)) (Nat.ne_of_lt (Nat.lt_succ_self _))
  have I2 := Inv.made (C := C) I
  have r1 : Vals (V.ref (s.heap.objs.size + 1) :: vs) (Value.ref (s.heap.objs.size + 1) :: us) := .cons rfl r
  refine wpAny_call (make_map (f := f) I.kIn M.makes M.init (beq_iff_eq.mp M.fn) (codeAny_mono (F _ X.stack _ _ (Value.ref (s.heap.objs.size + 1) :: us) ws _ _ _ E (hr.make C us (ks.zip ws)) (I2.env0.make C us (ks.zip ws)) r1 rz l2 hq) fun r s' hq' => ?_))
  cases r with
  | error e => exact hx pins σ _ _ e s' I2 hq'
  | ok fl =>
    cases fl with
    | ret u =>
      obtain ⟨v, H', I3, rv, ev, q3⟩ := I2.after hq'
      subst ev
      exact ⟨rv, ⟨V.ref (s.heap.objs.size + 1), H', I3, rfl, q3⟩⟩
    | next => exact False.elim hq'
    | brk => exact False.elim hq'
    | cont => exact False.elim hq'
def tMakeSK (K : PySem.W.Frag) (C : Addr) (m : Nat) (sp : Sp2) (E : XK) (tf te : TE) (tk : TA) : TE := fun σ H Q => tf σ H fun c H0 => c = .ref C ∧ te σ H0 fun y H1 => tk σ H1 fun zs H2 => ∃ a xs, y = V.ref a ∧ (SqT K H2 a xs ∨ SqL K H2 a xs) ∧ zs.length = m ∧
  ∀ x dx, H2 x = none → H2 dx = none → dx ≠ x → sp (.ref x :: xs) zs (upd (upd H2 dx (.own x)) x (.ins C dx [])) (fun v H3 => v = .non ∧ Q (.ref x) H3) E
/-- c(*y, k = v, ..), c a name that stands for the class at C -/
theorem pe_makeSK (M : Mk X.K C f) (F : FnKw X.prog X.w X.K X.mg X.base CX k f ks sp) (hr : Room (k + 1) X.A) (hx : Passes CX X E) (hf : PE X (.Name x p) tf) (he : PE X e te) (hkw : PK X kws tk)
    (hall : (backToKw pos (keywordEach kws X.env)).all (·.1.isSome) = true := by rfl) (hks : (backToKw pos (keywordEach kws X.env)).filterMap (·.1) = ks := by rfl) (hst : starEach [.Starred e p2] X.env = [(true, eval e X.env)] := by rfl) :
    PE X (.Call (.Name x p) [.Starred e p2] kws pos) (tMakeSK X.K C ks.length sp E tf te tk) := by
  refine ⟨fun pins s σ H Q I h => ?_⟩
  refine wpAny_Call_Name_kw (thn (hf.run pins s σ H _ I h) fun c s0 ⟨xc, H0, I0, rc, ec, q0⟩ => ?_)
  subst ec
  obtain rfl : c = Value.ref C := rc
  refine PySem.W.krm_SK (K := X.K) M.kp hall (thn (he.run pins s0 σ H0 _ I0 q0) fun v s1 ⟨y, H1, I1, ry, q1⟩ => ?_) hst
  refine thn (hkw.run pos pins s1 σ H1 _ I1 q1) fun ws s2 ⟨zs, H2, I2, rz, a, xs, ey, hxs, l2, q2⟩ => ?_
  subst ey
  obtain rfl : v = Value.ref a := ry
  refine StX.star_any I2 hxs fun us s3 I3 rv => ⟨I3.kIn, ?_⟩
  rw [hks]
  exact run_makeKw M F hr hx I3 rv rz l2 q2
end
end KR
set_option Elab.async false
set_option linter.all false
set_option maxRecDepth 100000
set_option maxHeartbeats 4000000
namespace KR
open PySem PySem.Spec PyProof.Rows L2
/-- t looks names up in the dict at D and goes on as t' -/
def KwTo {α : Type} (D : Addr) : List (Str × Value) → Sem α → Sem α → Prop
  | [], t, t' => t = t'
  | q :: l, t, t' => ∃ (β γ : Type) (k1 : Option Value → Sem β) (k2 : β → Sem γ) (k3 : γ → Sem α) (a : β), t = ((nsGet D q.1 >>= k1) >>= k2) >>= k3 ∧ k1 (some q.2) = pure a ∧ KwTo D l (k2 a >>= k3) t'
theorem KwTo.run {α : Type} {K : PySem.W.Frag} {M : Model} {D : Addr} {A : Around} {E : Value → Shared → Prop} {s : Shared} {Q : α → Shared → Prop} (X : K.In s.heap) : ∀ {l : List (Str × Value)} {t t' : Sem α}, (∀ q ∈ l, PySem.W.nsIn K D q.1 = some (some q.2)) → KwTo D l t t' → wpAny M A t' Q E s → wpAny M A t Q E s
  | [], t, t', _, e, h => by rw [show t = t' from e]; exact h
  | q :: l, t, t', hl, e, h => by
    obtain ⟨β, γ, k1, k2, k3, a, e1, e2, e3⟩ := e
    have l1 : PySem.W.Looks M s.heap (nsGet D q.1 >>= k1) a := (PySem.W.looks_nsIn X (hl q (List.mem_cons_self ..))).andThen (PySem.W.Looks.of_pure e2)
    rw [e1, bind_assoc]
    exact wpAny_bind (l1.here (KwTo.run X (fun p hp => hl p (List.mem_cons_of_mem _ hp)) e3 h))
end KR
namespace KD
open PySem PySem.Spec PyProof.Rows L2 KT KR
abbrev n_Zi : List Str := ["self", "told", "table", "kinds"]
theorem sc_Zi : FnScope n_Zi n_Zi (defScope s_Zone_init) := ⟨rfl, rfl, rfl, by decide +kernel, rfl, by decide +kernel, by decide +kernel⟩
/-- a zone: its kinds' objects, its kinds, what it was told, its table -/
def ZoneAt (cK cZ : Addr) (H : Hp) (z : Addr) (kas : List Addr) (ks : List Kn) (told : List Bd) (T : Option Tb) : Prop :=
  ∃ dx kt st nt tt tv bas, H z = some (.ins cZ dx [("kinds", .ref kt), ("scales", .ref st), ("all_names", .ref nt), ("told", .ref tt), ("table", tv)]) ∧ H kt = some (.tup (kas.map V.ref)) ∧ KdsAt cK H kas ks ∧
    NmAt H st (scl ks) ∧ NmAt H nt (nms ks) ∧ H tt = some (.tup (bas.map V.ref)) ∧ BdsAt H bas told ∧ TabAt H tv (nms ks) T
theorem ZoneAt.mono {cK cZ : Addr} {H H' : Hp} {z : Addr} {kas : List Addr} {ks : List Kn} {told : List Bd} {T : Option Tb} (s : Same H H') (h : ZoneAt cK cZ H z kas ks told T) : ZoneAt cK cZ H' z kas ks told T :=
  let ⟨dx, kt, st, nt, tt, tv, bas, h1, h2, h3, h4, h5, h6, h7, h8⟩ := h
  ⟨dx, kt, st, nt, tt, tv, bas, s _ _ h1, s _ _ h2, h3.mono s, s _ _ h4, s _ _ h5, s _ _ h6, h7.mono s, h8.mono s⟩
/-- a table from nothing -/
def tab0 (N : List Str) (bs : List Bd) : Option Tb := KM.tights N (some (KM.free N)) bs
def spZi (cK cZ : Addr) : Sp := fun vs H Q _ => ∃ a dx tv bv p kas ks, vs = [.ref a, tv, bv, .ref p] ∧ H a = some (.ins cZ dx []) ∧ H p = some (.tup (kas.map V.ref)) ∧ p ≠ a ∧ KdsAt cK (hide a H) kas ks ∧ KsOk ks ∧ (nms ks).Nodup ∧ KM.In (nms ks) (own ks) ∧
  ((tv = .non ∧ bv = .non ∧ ∀ H', Same (hide a H) H' → ZoneAt cK cZ H' a kas ks (own ks) (tab0 (nms ks) (own ks)) → Q .non H') ∨
   ∃ tt bas told T, tv = .ref tt ∧ hide a H tt = some (.tup (bas.map V.ref)) ∧ BdsAt (hide a H) bas told ∧ TabAt (hide a H) bv (nms ks) T ∧ ∀ H', Same (hide a H) H' → ZoneAt cK cZ H' a kas ks told T → Q .non H')
theorem nms_len (ks : List Kn) : (nms ks).length = 1 + 2 * ks.length := by
  show (scl ks).length + 1 = _
  rw [scl_len]; omega
structure ZnOk (K : PySem.W.Frag) (cZ : Addr) : Prop where
  cl : Cls K cZ
  nKinds : NoAttr K cZ "kinds"
  nScales : NoAttr K cZ "scales"
  nNames : NoAttr K cZ "all_names"
  nTold : NoAttr K cZ "told"
  nTable : NoAttr K cZ "table"
section
variable {P : Program} {w : World} {K : PySem.W.Frag} {mg : Str → Option Value} {base : Heap} {f : Addr} {fd : FuncData} {C : Kd}
theorem zinit_body (T : KdOk K mg C) (Z : ZnOk K C.zone) (G1 : Fd P w K mg base CX0 1 "need_kinds" (spKinds C.kind)) (G2 : Fd P w K mg base CX0 1 "scales_of" (spScales C.kind)) (G3 : Fd P w K mg base CX0 2 "own_bounds" (spOwn C.kind))
    (G4 : Fd P w K mg base CX0 1 "free_table" spFree) (G5 : Fd P w K mg base CX0 2 "closed" spClosed) {cdv : Value} {A : Around} {outer : List Env} {s : Shared} {H : Hp} {vs : List V} {Q : VK} {E : XK} (hr : Room 2 (A.deeper (envOfC "Zone.__init__" (defScope s_Zone_init) s.heap.objs.size f cdv)))
    (h : spZi C.kind C.zone vs H Q E) : ∃ t, PSs (cxOf CX0 P w K mg base n_Zi "Zone.__init__" (defScope s_Zone_init) f cdv A outer s H E) (defBody s_Zone_init) t ∧ t { nx := fun _ H' => Q .non H', rt := Q } (L2.start n_Zi vs) H := by
  obtain ⟨a, dx, tv, bv, p, kas, ks, rfl, ha, hp, npa, hk, ok, nd, hin, q⟩ := h
  have hu := hu_of hr
  have n := sc_Zi.nd
  refine ⟨_, PSs.nox (pss_cons (ps_fld (pv 0) (pv 3) rfl)
      (pss_ct (ps_if (pt_cmp (pc_isN (pv 1)) rfl)
        (pss_one (ps_expr (pe_d G1 (hr.mono (by decide)) pass0 (pa_cons (pv 3) pa_nil))))
        pss_nil)
      (pss_cons (ps_fld (pv 0) (pe_d G2 (hr.mono (by decide)) pass0 (pa_cons (pv 3) pa_nil)) rfl)
      (pss_cons (ps_fld (pv 0) (pe_tup (pa_cons (C8.pe_gc (by rfl) T.gBYTE) (StX.pa_star (pe_fld (pv 0) rfl) pa_nil))) rfl)
      (pss_cons (ps_fld (pv 0) (pe_ifExp (pt_cmp (pc_isN (pv 1)) rfl) (pe_d G3 (hr.mono (by decide)) pass0 (pa_cons (pv 3) pa_nil)) (pv 1)) rfl)
      (pss_one (ps_fld (pv 0) (pe_ifExp (pt_cmp (pc_isN (pv 1)) rfl) (pe_d G5 (hr.mono (by decide)) pass0 (pa_cons (pe_d G4 (hr.mono (by decide)) pass0 (pa_cons (pe_fld (pv 0) rfl) pa_nil)) (pa_cons (pe_fld (pv 0) rfl) (pa_cons (pe_fld (pv 0) rfl) pa_nil)))) (pv 2)) rfl))))))), ?_⟩
  have nB : hide a H a = none := if_pos rfl
  have hpB : hide a H p = some (.tup (kas.map V.ref)) := by rw [hide_ne npa]; exact hp
  generalize hB : hide a H = B at q hk nB hpB
  have sB : Same B H := by rw [← hB]; exact hide_same
  have l7 : (nms ks).length ≤ 7 := by rw [nms_len]; have := ok.le; omega
  -- self.kinds = kinds
  refine ⟨_, rfl, _, rfl, a, _, dx, _, rfl, ha, Z.cl, Z.nKinds, by simp, ?_⟩
  have s1 := same_mut (o := .ins C.zone dx (putF "kinds" (.ref p) [])) sB nB
  have a1 : upd H a (.ins C.zone dx (putF "kinds" (.ref p) [])) a = some (.ins C.zone dx [("kinds", .ref p)]) := upd_same
  generalize upd H a (.ins C.zone dx (putF "kinds" (.ref p) [])) = H1 at s1 a1
  refine ⟨fun σ' H' => σ' = [some (.ref a), some tv, some bv, some (.ref p)] ∧ Same B H' ∧ H' a = some (.ins C.zone dx [("kinds", .ref p)]), ?_, ?_⟩
  · refine ⟨_, rfl, _, rfl, ?_⟩
    rcases q with ⟨rfl, rfl, q⟩ | ⟨tt, bas, told, T, rfl, _⟩
    · exact ift rfl ⟨_, rfl, p, kas, ks, rfl, s1 _ _ hpB, hk.mono s1, ok, fun H' s2 => ⟨rfl, s1.trans s2, s2 _ _ a1⟩⟩
    · exact iff0 rfl ⟨rfl, s1, a1⟩
  rintro σ2 H2 ⟨rfl, s2, a2⟩
  -- self.scales = scales_of(kinds)
  refine ⟨_, rfl, p, kas, ks, rfl, s2 _ _ hpB, hk.mono s2, ok, fun st H3 s3 hst => ⟨_, rfl, a, _, dx, _, rfl, s3 _ _ a2, Z.cl, Z.nScales, by simp, ?_⟩⟩
  have st_a : st ≠ a := fun e => by
    have := s3 _ _ a2
    rw [← e, hst] at this
    cases this
  have s4 := same_mut (o := .ins C.zone dx (putF "scales" (.ref st) [("kinds", .ref p)])) (s2.trans s3) nB
  have a4 : upd H3 a (.ins C.zone dx (putF "scales" (.ref st) [("kinds", .ref p)])) a = some (.ins C.zone dx [("kinds", .ref p), ("scales", .ref st)]) := upd_same
  have hst4 : NmAt (upd H3 a (.ins C.zone dx (putF "scales" (.ref st) [("kinds", .ref p)]))) st (scl ks) := by unfold NmAt; rw [upd_ne st_a]; exact hst
  generalize upd H3 a (.ins C.zone dx (putF "scales" (.ref st) [("kinds", .ref p)])) = H4 at s4 a4 hst4
  -- self.all_names = (BYTE, *self.scales)
  refine ⟨_, rfl, a, _, dx, _, _, rfl, a4, Z.cl, Z.nScales, rfl, st, _, rfl, .inl (SqT.of hst4), ?_, fun nt hnt => ⟨_, rfl, a, _, dx, _, rfl, (same_new hnt) _ _ a4, Z.cl, Z.nNames, by simp, ?_⟩⟩
  · have := ok.le
    simp only [List.append_nil, List.length_cons, List.length_map, scl_len]
    rw [sizeLine_eq]; omega
  have nt_a : nt ≠ a := ne_fresh a4 hnt
  have nt_st : nt ≠ st := ne_fresh hst4 hnt
  have sn := same_new (o := .tup (V.str "byte" :: ((scl ks).map V.str ++ []))) hnt
  have hnt5 : NmAt (upd H4 nt (.tup (V.str "byte" :: ((scl ks).map V.str ++ [])))) nt (nms ks) := by
    unfold NmAt
    rw [upd_same, List.append_nil]
    rfl
  have s5 := s4.trans sn
  have a5 := sn _ _ a4
  have hst5 := sn _ _ hst4
  generalize upd H4 nt (.tup (V.str "byte" :: ((scl ks).map V.str ++ []))) = H5 at s5 a5 hst5 hnt5
  have s6 := same_mut (o := .ins C.zone dx (putF "all_names" (.ref nt) [("kinds", .ref p), ("scales", .ref st)])) s5 nB
  have a6 : upd H5 a (.ins C.zone dx (putF "all_names" (.ref nt) [("kinds", .ref p), ("scales", .ref st)])) a = some (.ins C.zone dx [("kinds", .ref p), ("scales", .ref st), ("all_names", .ref nt)]) := upd_same
  have hst6 : NmAt (upd H5 a (.ins C.zone dx (putF "all_names" (.ref nt) [("kinds", .ref p), ("scales", .ref st)]))) st (scl ks) := by unfold NmAt; rw [upd_ne st_a]; exact hst5
  have hnt6 : NmAt (upd H5 a (.ins C.zone dx (putF "all_names" (.ref nt) [("kinds", .ref p), ("scales", .ref st)]))) nt (nms ks) := by unfold NmAt; rw [upd_ne nt_a]; exact hnt5
  generalize upd H5 a (.ins C.zone dx (putF "all_names" (.ref nt) [("kinds", .ref p), ("scales", .ref st)])) = H6 at s6 a6 hst6 hnt6
  -- self.told
  rcases q with ⟨rfl, rfl, q⟩ | ⟨tt, bas, told, T, rfl, htt, hbs, hT, q⟩
  · refine ⟨_, rfl, _, rfl, ift rfl ⟨_, rfl, p, kas, ks, rfl, s6 _ _ hpB, hk.mono s6, ok, fun tt bas H7 s7 htt hbs => ⟨_, rfl, a, _, dx, _, rfl, s7 _ _ a6, Z.cl, Z.nTold, by simp, ?_⟩⟩⟩
    have a7 := s7 _ _ a6
    have tt_a : tt ≠ a := fun e => by rw [e, a7] at htt; cases htt
    have sh : Same (hide a H7) (upd H7 a (.ins C.zone dx (putF "told" (.ref tt) [("kinds", .ref p), ("scales", .ref st), ("all_names", .ref nt)]))) := same_mut hide_same (if_pos rfl)
    have s8 := same_mut (o := .ins C.zone dx (putF "told" (.ref tt) [("kinds", .ref p), ("scales", .ref st), ("all_names", .ref nt)])) (s6.trans s7) nB
    have a8 : upd H7 a (.ins C.zone dx (putF "told" (.ref tt) [("kinds", .ref p), ("scales", .ref st), ("all_names", .ref nt)])) a = some (.ins C.zone dx [("kinds", .ref p), ("scales", .ref st), ("all_names", .ref nt), ("told", .ref tt)]) := upd_same
    have hst8 := sh st _ (by rw [hide_ne st_a]; exact s7 _ _ hst6)
    have hnt8 := sh nt _ (by rw [hide_ne nt_a]; exact s7 _ _ hnt6)
    have htt8 := sh tt _ (by rw [hide_ne tt_a]; exact htt)
    have hbs8 : BdsAt (upd H7 a (.ins C.zone dx (putF "told" (.ref tt) [("kinds", .ref p), ("scales", .ref st), ("all_names", .ref nt)]))) bas (own ks) :=
      Paired.mono (fun b e hb => sh b _ (by rw [hide_ne (fun z => by rw [z, BdAt, a7] at hb; cases hb)]; exact hb)) hbs
    generalize upd H7 a (.ins C.zone dx (putF "told" (.ref tt) [("kinds", .ref p), ("scales", .ref st), ("all_names", .ref nt)])) = H8 at s8 a8 hst8 hnt8 htt8 hbs8
    -- self.table
    refine ⟨_, rfl, _, rfl, ift rfl ?_⟩
    refine ⟨_, rfl, a, _, dx, _, _, rfl, a8, Z.cl, Z.nNames, rfl, nt, nms ks, rfl, hnt8, l7, fun v H9 s9 hv => ?_⟩
    refine ⟨_, rfl, a, _, dx, _, _, rfl, s9 _ _ a8, Z.cl, Z.nNames, rfl, _, rfl, a, _, dx, _, _, rfl, s9 _ _ a8, Z.cl, Z.nTold, rfl, ?_⟩
    refine ⟨v, nt, tt, bas, nms ks, _, own ks, rfl, hv, s9 _ _ hnt8, s9 _ _ htt8, hbs8.mono s9, nd, l7, hin, fun tv H10 s10 htv => ?_⟩
    have sx := s9.trans s10
    refine ⟨_, rfl, a, _, dx, _, rfl, sx _ _ a8, Z.cl, Z.nTable, by simp, ?_⟩
    have a10 := sx _ _ a8
    have sh2 : Same (hide a H10) (upd H10 a (.ins C.zone dx (putF "table" tv [("kinds", .ref p), ("scales", .ref st), ("all_names", .ref nt), ("told", .ref tt)]))) := same_mut hide_same (if_pos rfl)
    refine q _ (same_mut (s8.trans sx) nB) ⟨dx, p, st, nt, tt, tv, bas, upd_same, same_mut (s8.trans sx) nB _ _ hpB, hk.mono (same_mut (s8.trans sx) nB), sh2 st _ (by rw [hide_ne st_a]; exact sx _ _ hst8), sh2 nt _ (by rw [hide_ne nt_a]; exact sx _ _ hnt8), sh2 tt _ (by rw [hide_ne tt_a]; exact sx _ _ htt8), ?_, ?_⟩
    · exact Paired.mono (fun b e hb => sh2 b _ (by rw [hide_ne (fun z => by rw [z, BdAt, a8] at hb; cases hb)]; exact sx _ _ hb)) hbs8
    · revert htv
      unfold tab0
      generalize KM.tights (nms ks) (some (KM.free (nms ks))) (own ks) = T'
      intro htv
      cases T' with
      | none => exact htv
      | some T' =>
        obtain ⟨d, kvs, e, hd, r⟩ := htv
        exact ⟨d, kvs, e, sh2 d _ (by rw [hide_ne (fun z => by rw [z, a10] at hd; cases hd)]; exact hd), r⟩
  · refine ⟨_, rfl, _, rfl, iff0 rfl ⟨_, rfl, _, rfl, a, _, dx, _, rfl, a6, Z.cl, Z.nTold, by simp, ?_⟩⟩
    have hB2 := hB
    subst hB2
    have sh : Same (hide a H6) (upd H6 a (.ins C.zone dx (putF "told" (.ref tt) [("kinds", .ref p), ("scales", .ref st), ("all_names", .ref nt)]))) := same_mut hide_same (if_pos rfl)
    have s8 := same_mut (o := .ins C.zone dx (putF "told" (.ref tt) [("kinds", .ref p), ("scales", .ref st), ("all_names", .ref nt)])) s6 nB
    have a8 : upd H6 a (.ins C.zone dx (putF "told" (.ref tt) [("kinds", .ref p), ("scales", .ref st), ("all_names", .ref nt)])) a = some (.ins C.zone dx [("kinds", .ref p), ("scales", .ref st), ("all_names", .ref nt), ("told", .ref tt)]) := upd_same
    have hst8 := sh st _ (by rw [hide_ne st_a]; exact hst6)
    have hnt8 := sh nt _ (by rw [hide_ne nt_a]; exact hnt6)
    generalize upd H6 a (.ins C.zone dx (putF "told" (.ref tt) [("kinds", .ref p), ("scales", .ref st), ("all_names", .ref nt)])) = H8 at s8 a8 hst8 hnt8
    refine ⟨_, rfl, _, rfl, iff0 rfl ⟨_, rfl, _, rfl, a, _, dx, _, rfl, a8, Z.cl, Z.nTable, by simp, ?_⟩⟩
    have sh2 : Same (hide a H8) (upd H8 a (.ins C.zone dx (putF "table" bv [("kinds", .ref p), ("scales", .ref st), ("all_names", .ref nt), ("told", .ref tt)]))) := same_mut hide_same (if_pos rfl)
    have s9 := same_mut (o := .ins C.zone dx (putF "table" bv [("kinds", .ref p), ("scales", .ref st), ("all_names", .ref nt), ("told", .ref tt)])) s8 nB
    exact q _ s9 ⟨dx, p, st, nt, tt, bv, bas, upd_same, s9 _ _ hpB, hk.mono s9, sh2 st _ (by rw [hide_ne st_a]; exact hst8), sh2 nt _ (by rw [hide_ne nt_a]; exact hnt8), s9 _ _ htt, hbs.mono s9, hT.mono s9⟩
end
end KD
set_option Elab.async false
set_option linter.all false
set_option maxRecDepth 100000
set_option maxHeartbeats 4000000
namespace KD
open PySem PySem.Spec PyProof.Rows L2 KT KR
def spZ0 (cK cZ : Addr) : Sp2 := fun vs zs H Q E => ∃ a rest, vs = .ref a :: rest ∧ 1 ≤ rest.length ∧ rest.length ≤ 3 ∧ ∀ p, H p = none → spZi cK cZ [.ref a, .non, .non, .ref p] (upd H p (.tup rest)) Q E
def spZ2 (cK cZ : Addr) : Sp2 := fun vs zs H Q E => ∃ a rest tv bv, vs = .ref a :: rest ∧ zs = [tv, bv] ∧ 1 ≤ rest.length ∧ rest.length ≤ 3 ∧ ∀ p, H p = none → spZi cK cZ [.ref a, tv, bv, .ref p] (upd H p (.tup rest)) Q E
abbrev ziB (x t0 t1 tp : Value) : List (Str × Value) := [("self", x), ("told", t0), ("table", t1), ("kinds", tp)]
theorem three {α : Type} {l : List α} (h1 : 1 ≤ l.length) (h3 : l.length ≤ 3) : (∃ a, l = [a]) ∨ (∃ a b, l = [a, b]) ∨ ∃ a b c, l = [a, b, c] := by
  match l, h1, h3 with
  | [a], _, _ => exact .inl ⟨a, rfl⟩
  | [a, b], _, _ => exact .inr (.inl ⟨a, b, rfl⟩)
  | [a, b, c], _, _ => exact .inr (.inr ⟨a, b, c, rfl⟩)
/-- what the binder does without keywords -/
theorem zi_bind0 (D : Addr) (doc pm : Value) (an : Option Addr) (cdv ct : Value) (x t0 t1 : Value) (rest : List Value) (h1 : 1 ≤ rest.length) (h3 : rest.length ≤ 3) :
    KwTo D [("told", t0), ("table", t1)] (bindArgs (PySem.W.fnOf "__init__" "Zone.__init__" (defArgs s_Zone_init) (defBody s_Zone_init) (defScope s_Zone_init) .none (.ref D) doc pm an cdv ct) ⟨x :: rest, []⟩)
      (newTuple rest >>= fun tp => pure (ziB x t0 t1 tp)) := by
  rcases three h1 h3 with ⟨a, rfl⟩ | ⟨a, b, rfl⟩ | ⟨a, b, c, rfl⟩ <;> exact ⟨_, _, _, _, _, _, rfl, rfl, _, _, _, _, _, _, rfl, rfl, rfl⟩
theorem zi_bind2 (kV doc pm : Value) (an : Option Addr) (cdv ct : Value) (x t0 t1 : Value) (rest : List Value) (h1 : 1 ≤ rest.length) (h3 : rest.length ≤ 3) :
    bindArgs (PySem.W.fnOf "__init__" "Zone.__init__" (defArgs s_Zone_init) (defBody s_Zone_init) (defScope s_Zone_init) .none kV doc pm an cdv ct) ⟨x :: rest, [("told", t0), ("table", t1)]⟩ =
      (newTuple rest >>= fun tp => pure (ziB x t0 t1 tp)) := by
  rcases three h1 h3 with ⟨a, rfl⟩ | ⟨a, b, rfl⟩ | ⟨a, b, c, rfl⟩ <;> rfl
section
variable {P : Program} {w : World} {K : PySem.W.Frag} {mg : Str → Option Value} {base : Heap} {f : Addr} {fd : FuncData} {C : Kd}
abbrev ZiDf (K : PySem.W.Frag) (f : Addr) (fd : FuncData) : Prop := FunD K "__init__" "Zone.__init__" (defArgs s_Zone_init) (defBody s_Zone_init) (defScope s_Zone_init) [] [("told", .non), ("table", .non)] f fd
theorem zi_run (T : KdOk K mg C) (Z : ZnOk K C.zone) (G1 : Fd P w K mg base CX0 1 "need_kinds" (spKinds C.kind)) (G2 : Fd P w K mg base CX0 1 "scales_of" (spScales C.kind)) (G3 : Fd P w K mg base CX0 2 "own_bounds" (spOwn C.kind))
    (G4 : Fd P w K mg base CX0 1 "free_table" spFree) (G5 : Fd P w K mg base CX0 2 "closed" spClosed) (F : ZiDf K f fd) :
    FnKw P w K mg base CX0 3 f [] (spZ0 C.kind C.zone) ∧ FnKw P w K mg base CX0 3 f ["told", "table"] (spZ2 C.kind C.zone) := by
  obtain ⟨oc, od, dV, kV, doc, pm, an, cdv, ct, osl, rfl, lk, hcd, hD, hK⟩ := F.ex
  have hdV : dV = .none := by
    rcases hD with ⟨_, rfl⟩ | ⟨e, _⟩
    · rfl
    · exact absurd rfl e
  subst hdV
  have fin : ∀ {A : Around} {outer : List Env} {s : Shared} {H : Hp} {us rest : List Value} {args : Args} {a : Addr} {rs : List V} {tv bv : V} {t0 t1 : Value} {Q : VK} {E : XK}, Room 3 A → Env0 P w K mg base A outer s H → Vals rs rest → RelV tv t0 → RelV bv t1 → 1 ≤ rest.length → rest.length ≤ 3 →
      (∀ {M : Model} {A' : Around} {Ex : Value → Shared → Prop} {Q' : List (Str × Value) → Shared → Prop}, wpAny M A' (newTuple rest >>= fun tp => pure (ziB (Value.ref a) t0 t1 tp)) Q' Ex s → wpAny M A' (bindArgs (PySem.W.fnOf "__init__" "Zone.__init__" (defArgs s_Zone_init) (defBody s_Zone_init) (defScope s_Zone_init) .none kV doc pm an cdv ct) args) Q' Ex s) →
      (∀ p, H p = none → spZi C.kind C.zone [.ref a, tv, bv, .ref p] (upd H p (.tup rs)) Q E) → codeAny (model P w) A (.call (.ref f) args) (CR CX0 outer P w H s Q E) s := by
    intro A outer s H us rest args a rs tv bv t0 t1 Q E hr e0 rv r0 r1 l1 l3 hb hq
    have hn : H s.heap.objs.size = none := e0.hok.fresh (Nat.le_refl _)
    refine StX.run_bnd lk hcd sc_Zi hr e0 (G := fun xs H2 => ∃ p, H p = none ∧ xs = [.ref a, tv, bv, .ref p] ∧ H2 = upd H p (.tup rs)) (fun A' Ex Q' h => ?_) fun s2 H2 xs ⟨p, hp, ex, eH⟩ hr' => ?_
    · have hz : rest.length ≤ sizeLine := Nat.le_trans l3 three_ok
      refine hb (wpAny_bind (wpAny_newTuple (wpAny_pure ?_) hz))
      have new : ObjOk P w (upd H s.heap.objs.size (.tup rs)) (s.heap.push ({ cls := .type "tuple", data := .seq rest.toArray } : Obj)) s.heap.objs.size (.tup rs) := ⟨by rw [rv.length]; exact hz, rest, rv, ⟨_, Heap.get?_push_size _ rfl, rfl, _, rfl⟩⟩
      have un := StX.un_laid (fs := frs outer) (s := s) (o := ({ cls := .type "tuple", data := .seq rest.toArray } : Obj)) (u := .tup rs) hn
      exact h _ _ [.ref a, tv, bv, .ref s.heap.objs.size] [.ref a, t0, t1, .ref s.heap.objs.size] (StX.env0_laid e0 new) un rfl (fun e s' x => x.elim) (.cons rfl (.cons r0 (.cons r1 (.cons rfl .nil)))) rfl ⟨_, hn, rfl, rfl⟩
    · subst ex eH
      exact zinit_body T Z G1 G2 G3 G4 G5 hr' (hq p hp)
  constructor
  · intro A outer s H us ws vs zs Q E hr e0 r rz lz h
    obtain ⟨a, rs, rfl, l1, l3, hq⟩ := h
    cases rz with
    | cons _ _ => exact absurd lz (by simp)
    | nil =>
      cases r with
      | cons ra rt =>
        rename_i us rest
        obtain rfl : us = Value.ref a := ra
        rcases hK with e | ⟨D, rfl, hk⟩
        · cases e
        · obtain ⟨u0, n0, q0⟩ := hk ("told", .non) (by simp)
          obtain ⟨u1, n1, q1⟩ := hk ("table", .non) (by simp)
          have KX : K.In s.heap := e0.mod.kin.keeps fun b o e => (e0.bs b o e).1
          refine fin (us := []) hr e0 rt q0 q1 (by rw [← rt.length]; exact l1) (by rw [← rt.length]; exact l3) (fun {M A' Ex Q'} hz => ?_) hq
          refine KwTo.run KX (l := [("told", u0), ("table", u1)]) (fun q hq => ?_) (zi_bind0 D doc pm an cdv ct (.ref a) u0 u1 rest (by rw [← rt.length]; exact l1) (by rw [← rt.length]; exact l3)) hz
          rcases List.mem_cons.mp hq with rfl | hq
          · exact n0
          · rcases List.mem_cons.mp hq with rfl | hq
            · exact n1
            · cases hq
  · intro A outer s H us ws vs zs Q E hr e0 r rz lz h
    obtain ⟨a, rs, tv, bv, rfl, rfl, l1, l3, hq⟩ := h
    cases rz with
    | cons r0 rz =>
      cases rz with
      | cons r1 rz =>
        cases rz
        cases r with
        | cons ra rt =>
          rename_i t0 t1 us rest
          obtain rfl : us = Value.ref a := ra
          refine fin (us := []) hr e0 rt r0 r1 (by rw [← rt.length]; exact l1) (by rw [← rt.length]; exact l3) (fun {M A' Ex Q'} hz => ?_) hq
          have e := zi_bind2 kV doc pm an cdv ct (.ref a) t0 t1 rest (by rw [← rt.length]; exact l1) (by rw [← rt.length]; exact l3)
          show wpAny M A' (bindArgs _ ⟨Value.ref a :: rest, [("told", t0), ("table", t1)]⟩) _ _ _
          rw [e]
          exact hz
end
end KD
set_option Elab.async false
set_option linter.all false
set_option maxRecDepth 100000
set_option maxHeartbeats 4000000
namespace KD
open PySem PySem.Spec PyProof.Rows L2 KT KR
def cl (x : Str) : List Nat := x.cps.toList
theorem cl_app (x y : Str) : cl (x ++ y) = cl x ++ cl y := by
  obtain ⟨a⟩ := x
  obtain ⟨b⟩ := y
  show (a ++ b).toList = a.toList ++ b.toList
  exact Array.toList_append
theorem cl_inj {x y : Str} (h : cl x = cl y) : x = y := by
  obtain ⟨a⟩ := x
  obtain ⟨b⟩ := y
  have : a = b := by
    cases a; cases b
    exact congrArg Array.mk h
  rw [this]
theorem sz_inj {x y : Str} (h : ("size " : Str) ++ x = ("size " : Str) ++ y) : x = y := by
  have := congrArg cl h
  rw [cl_app, cl_app] at this
  exact cl_inj (List.append_cancel_left this)
theorem al_inj {x y : Str} (h : ("align " : Str) ++ x = ("align " : Str) ++ y) : x = y := by
  have := congrArg cl h
  rw [cl_app, cl_app] at this
  exact cl_inj (List.append_cancel_left this)
theorem sz_al {x y : Str} : ("size " : Str) ++ x ≠ ("align " : Str) ++ y := fun h => by
  have := congrArg cl h
  rw [cl_app, cl_app] at this
  have e1 : cl "size " = [115, 105, 122, 101, 32] := by decide
  have e2 : cl "align " = [97, 108, 105, 103, 110, 32] := by decide
  rw [e1, e2] at this
  simp at this
theorem by_sz {x : Str} : ("byte" : Str) ≠ ("size " : Str) ++ x := fun h => by
  have := congrArg cl h
  rw [cl_app] at this
  have e1 : cl "size " = [115, 105, 122, 101, 32] := by decide
  have e2 : cl "byte" = [98, 121, 116, 101] := by decide
  rw [e1, e2] at this
  simp at this
theorem by_al {x : Str} : ("byte" : Str) ≠ ("align " : Str) ++ x := fun h => by
  have := congrArg cl h
  rw [cl_app] at this
  have e1 : cl "align " = [97, 108, 105, 103, 110, 32] := by decide
  have e2 : cl "byte" = [98, 121, 116, 101] := by decide
  rw [e1, e2] at this
  simp at this
theorem mem_scl {x : Str} {ks : List Kn} : x ∈ scl ks ↔ ∃ k ∈ ks, x = ("size " : Str) ++ k.1 ∨ x = ("align " : Str) ++ k.1 := by
  unfold scl sclK
  rw [List.mem_flatMap]
  constructor
  · rintro ⟨k, hk, h⟩
    rcases List.mem_cons.mp h with h | h
    · exact ⟨k, hk, .inl h⟩
    · exact ⟨k, hk, .inr (List.mem_singleton.mp h)⟩
  · rintro ⟨k, hk, h | h⟩
    · exact ⟨k, hk, by rw [h]; exact List.mem_cons_self ..⟩
    · exact ⟨k, hk, by rw [h]; exact List.mem_cons_of_mem _ (List.mem_singleton.mpr rfl)⟩
theorem scl_nd : ∀ {ks : List Kn}, (ks.map (·.1)).Nodup → (scl ks).Nodup
  | [], _ => List.nodup_nil
  | k :: r, h => by
    rw [List.map_cons, List.nodup_cons] at h
    have ih := scl_nd h.2
    show ((("size " : Str) ++ k.1) :: (("align " : Str) ++ k.1) :: scl r).Nodup
    rw [List.nodup_cons, List.nodup_cons]
    refine ⟨fun q => ?_, fun q => ?_, ih⟩
    · rcases List.mem_cons.mp q with q | q
      · exact sz_al q
      · obtain ⟨l, hl, e | e⟩ := mem_scl.mp q
        · exact h.1 (List.mem_map.mpr ⟨l, hl, (sz_inj e).symm⟩)
        · exact sz_al e
    · obtain ⟨l, hl, e | e⟩ := mem_scl.mp q
      · exact sz_al e.symm
      · exact h.1 (List.mem_map.mpr ⟨l, hl, (al_inj e).symm⟩)
theorem nms_nd {ks : List Kn} (h : (ks.map (·.1)).Nodup) : (nms ks).Nodup := by
  show (("byte" : Str) :: scl ks).Nodup
  rw [List.nodup_cons]
  refine ⟨fun q => ?_, scl_nd h⟩
  obtain ⟨l, hl, e | e⟩ := mem_scl.mp q
  · exact by_sz e
  · exact by_al e
theorem own_in (ks : List Kn) : KM.In (nms ks) (own ks) := fun e he => by
  unfold own at he
  rcases List.mem_append.mp he with he | he
  · obtain ⟨s, hs, rfl⟩ := List.mem_map.mp he
    exact ⟨List.mem_cons_self .., List.mem_cons_of_mem _ hs⟩
  · obtain ⟨k, hk, rfl⟩ := List.mem_map.mp he
    exact ⟨List.mem_cons_of_mem _ (mem_scl.mpr ⟨k, hk, .inr rfl⟩), List.mem_cons_of_mem _ (mem_scl.mpr ⟨k, hk, .inl rfl⟩)⟩
theorem own_len (ks : List Kn) : (own ks).length = 3 * ks.length := by
  unfold own
  rw [List.length_append, List.length_map, List.length_map, scl_len]; omega
/-- what is true of a zone -/
structure ZOk (ks : List Kn) (told : List Bd) (T : Option Tb) : Prop where
  kk : KsOk ks
  inn : KM.In (nms ks) told
  clo : KM.Clo (nms ks) told T
  own : ∀ e, e ∈ own ks → e ∈ told
theorem ZOk.nd {ks : List Kn} {told : List Bd} {T : Option Tb} (z : ZOk ks told T) : (nms ks).Nodup := nms_nd z.kk.nd
theorem ZOk.l7 {ks : List Kn} {told : List Bd} {T : Option Tb} (z : ZOk ks told T) : (nms ks).length ≤ 7 := by rw [nms_len]; have := z.kk.le; omega
theorem zok_own {ks : List Kn} (h : KsOk ks) : ZOk ks (own ks) (tab0 (nms ks) (own ks)) where
  kk := h
  inn := own_in ks
  clo := by
    have := KM.tights_clo (bs := own ks) (show KM.Clo (nms ks) [] (some (KM.free (nms ks))) from KM.free_cl _) (own_in ks)
    exact this
  own := fun _ h => h
theorem ZOk.more {ks : List Kn} {told bs : List Bd} {T : Option Tb} (z : ZOk ks told T) (h : KM.In (nms ks) bs) : ZOk ks (told ++ bs) (KM.tights (nms ks) T bs) where
  kk := z.kk
  inn := fun e he => (List.mem_append.mp he).elim (z.inn e) (h e)
  clo := KM.tights_clo z.clo h
  own := fun e he => List.mem_append_left _ (z.own e he)
/-- what is new behind the making of an instance and of the tuple of its arguments -/
theorem mk_new {H : Hp} {x dx p C : Addr} {u : HO} (nx : H x = none) (ndx : H dx = none) (hne : dx ≠ x) (np : upd (upd H dx (.own x)) x (.ins C dx []) p = none) :
    upd (upd (upd H dx (.own x)) x (.ins C dx [])) p u x = some (.ins C dx []) ∧ upd (upd (upd H dx (.own x)) x (.ins C dx [])) p u p = some u ∧ p ≠ x ∧ Same H (hide x (upd (upd (upd H dx (.own x)) x (.ins C dx [])) p u)) := by
  have px : p ≠ x := fun e => by rw [e, upd_same] at np; cases np
  have pd : p ≠ dx := fun e => by rw [e, upd_ne hne, upd_same] at np; cases np
  refine ⟨by rw [upd_ne (Ne.symm px), upd_same], upd_same, px, fun b o e => ?_⟩
  have bx : b ≠ x := fun z => by rw [z, nx] at e; cases e
  have bd : b ≠ dx := fun z => by rw [z, ndx] at e; cases e
  have bp : b ≠ p := fun z => by rw [← z, upd_ne bx, upd_ne bd, e] at np; cases np
  rw [hide_ne bx, upd_ne bp, upd_ne bx, upd_ne bd]; exact e
section
variable {P : Program} {w : World} {K : PySem.W.Frag} {mg : Str → Option Value} {base : Heap} {f fI : Addr} {fd : FuncData} {C : Kd}
/-- a kinds list or tuple that is read -/
def spOf (cK cZ : Addr) : Sp := fun vs H Q _ => ∃ la kas ks, vs = [.ref cZ, .ref la] ∧ H la = some (.lst (kas.map V.ref)) ∧ KdsAt cK H kas ks ∧ KsOk ks ∧
  ∀ z H', Same H H' → ZoneAt cK cZ H' z kas ks (own ks) (tab0 (nms ks) (own ks)) → Q (.ref z) H'
theorem ok_of (B : Blt mg) (M : Mk K C.zone fI) (I0 : FnKw P w K mg base CX0 3 fI [] (spZ0 C.kind C.zone)) (F : FnDf K "of" "Zone.of" s_Zone_of f fd) : FnOk P w K mg base CX0 5 f fd p_Zone_of (spOf C.kind C.zone) := by
  refine F.ok sc_Zone_of (fun vs H Q E h => ?_) (fun cdv A outer s H vs Q E hr h => ?_)
  · obtain ⟨la, kas, ks, rfl, _⟩ := h; rfl
  · obtain ⟨la, kas, ks, rfl, hl, hk, ok, q⟩ := h
    have hu := hu_of hr
    have n := sc_Zone_of.nd
    refine ⟨_, PSs.nox (pss_ct (ps_if (pt_not (pt_val (pe_callB call_isiT (by rfl) B.isinstance (by decide +kernel) (pa_cons (pv 1) (pa_cons (pe_tup (pa_cons (pe_bltn (v := .ty "list") (by rfl) B.list (by decide +kernel) rfl) (pa_cons (pe_bltn (v := .ty "tuple") (by rfl) B.tuple (by decide +kernel) rfl) pa_nil))) pa_nil)))))
        pss_never
        pss_nil)
      (pss_one (ps_ret (pe_makeSK M I0 (hr.mono (by decide)) pass0 (pv 0) (pv 1) pk_nil)))), ?_⟩
    refine ⟨fun σ' H' => σ' = [some (.ref C.zone), some (.ref la)] ∧ Same H H', ?_, ?_⟩
    · refine u_if (u_not (u_B ⟨_, rfl, two_ok, fun p hp => ?_⟩))
      have s1 := same_new (o := .tup [.ty "list", .ty "tuple"]) hp
      refine ⟨_, p, _, _, _, true, rfl, upd_same, .cons (.ty "list") (.cons (.ty "tuple") .nil), .base (.lst (s1 _ _ hl)), ?_, true, rfl, iff0 rfl ⟨rfl, s1⟩⟩
      exact kitAny_cons (b := true) (kit_ty (by decide +kernel)) (fun z => by cases z) (fun _ => rfl)
    · rintro σ1 H1 ⟨rfl, s1⟩
      have lk := hk.length
      have l1 := ok.ne
      have l3 := ok.le
      refine ⟨_, rfl, rfl, _, rfl, la, _, rfl, .inr (SqL.of (s1 _ _ hl)), rfl, fun x dx nx ndx hne => ⟨x, _, rfl, by rw [List.length_map, lk]; exact l1, by rw [List.length_map, lk]; exact l3, fun p np => ?_⟩⟩
      obtain ⟨e1, e2, e3, s2⟩ := mk_new (u := .tup (kas.map V.ref)) nx ndx hne np
      refine ⟨x, dx, _, _, p, kas, ks, rfl, e1, e2, e3, hk.mono (s1.trans s2), ok, nms_nd ok.nd, own_in ks, .inl ⟨rfl, rfl, fun H' s3 hz => ⟨rfl, q x H' (s1.trans (s2.trans s3)) hz⟩⟩⟩
/-- z.need_names(i, j) -/
def spNN (cK cZ : Addr) : Sp := fun vs H Q _ => ∃ z kas ks told T i j, vs = [.ref z, .str i, .str j] ∧ ZoneAt cK cZ H z kas ks told T ∧ (nms ks).length ≤ 7 ∧ i ∈ nms ks ∧ j ∈ nms ks ∧ ∀ H', Same H H' → Q .non H'
theorem inV_mem {x : Str} {ys : List Str} (h : x ∈ ys) : inV (.str x) (ys.map V.str) = true := by
  unfold inV
  rw [List.any_map]
  exact List.any_eq_true.mpr ⟨x, h, show (x == x) = true from beq_self_eq_true x⟩
theorem ok_need_names (B : Blt mg) (Z : ZnOk K C.zone) (F : FnDf K "need_names" "Zone.need_names" s_Zone_need_names f fd) : FnOk P w K mg base CX0 1 f fd p_Zone_need_names (spNN C.kind C.zone) := by
  refine F.ok sc_Zone_need_names (fun vs H Q E h => ?_) (fun cdv A outer s H vs Q E hr h => ?_)
  · obtain ⟨z, kas, ks, told, T, i, j, rfl, _⟩ := h; rfl
  · obtain ⟨z, kas, ks, told, T, i, j, rfl, hz, l7, hi, hj, q⟩ := h
    have hu := hu_of hr
    have n := sc_Zone_need_names.nd
    refine ⟨_, PSs.nox (pss_one (ps_for PassesOwn.never rfl (pi_tup (pe_tup (pa_cons (pv 1) (pa_cons (pv 2) pa_nil)))) (pg_name (i := 3) n rfl (.inl rfl))
        (pss_one (ps_if (PW.pt (pw_or (pt_not (pt_val (pe_callB call_isi (by rfl) B.isinstance (by decide +kernel) (pa_cons (pv 3) (pa_cons (pe_bltn (v := .ty "str") (by rfl) B.str (by decide +kernel) rfl) pa_nil))))) (pw_or1 (pt_cmpR op_notIn_seq (pv 3) (pe_fld (pv 0) rfl) (by rfl)))))
            pss_never
            pss_nil)))), ?_⟩
    refine ⟨_, rfl, _, rfl, two_ok, fun p hp => ⟨p, rfl, ⟨_, SqT.of upd_same⟩, ?_⟩⟩
    have s1 := same_new (o := .tup [.str i, .str j]) hp
    have hp1 : upd H p (.tup [.str i, .str j]) p = some (.tup [.str i, .str j]) := upd_same
    generalize upd H p (.tup [.str i, .str j]) = H1 at s1 hp1
    refine for_tup (K := K) (a := p) (xs := [.str i, .str j]) (fun m σ' H' => (∃ x, σ' = [some (.ref z), some (.str i), some (.str j), x]) ∧ H' = H1) ⟨⟨_, rfl⟩, rfl⟩ (fun m σ' H' _ ⟨_, e⟩ => SqT.of (e ▸ hp1)) ?_ ?_
    · rintro m x0 σ' H' hx ⟨⟨x, rfl⟩, rfl⟩
      obtain ⟨y, rfl, hy⟩ : ∃ y, x0 = V.str y ∧ y ∈ nms ks := by
        match m, hx with
        | 0, hx => cases hx; exact ⟨i, rfl, hi⟩
        | 1, hx => cases hx; exact ⟨j, rfl, hj⟩
        | m + 2, hx => simp at hx
      obtain ⟨dx, kt, st, nt, tt, tv, bas, h1, h2, h3, h4, h5, _⟩ := hz.mono s1
      refine u_if (u_or (u_not (u_B ⟨_, rfl, ⟨_, _, _, _, true, rfl, .ty "str", .base (.str y), kit_ty (by decide +kernel), true, rfl, iff0 rfl ?_⟩⟩)))
      refine ⟨_, rfl, _, rfl, z, _, dx, _, _, rfl, h1, Z.cl, Z.nNames, rfl, nt, _, rfl, .inr (SqT.of h5), rfl, flat_str _, false, ?_, iff0 rfl ⟨⟨_, rfl⟩, rfl⟩⟩
      rw [if_pos rfl, inV_mem hy]; rfl
    · rintro σ' H' ⟨_, rfl⟩
      exact q _ s1
/-- truth -/
def spTruth (cK cZ : Addr) : Sp := fun vs H Q _ => ∃ z kas ks told T, vs = [.ref z] ∧ ZoneAt cK cZ H z kas ks told T ∧ Q (.bl T.isSome) H
theorem tab_some {H : Hp} {v : V} {N : List Str} : ∀ {T : Option Tb}, TabAt H v N T → (!decide (v = .non)) = T.isSome
  | none, h => by rw [show v = .non from h]; rfl
  | some T, ⟨d, kvs, e, _⟩ => by rw [e]; rfl
theorem ok_bool (Z : ZnOk K C.zone) (F : FnDf K "__bool__" "Zone.__bool__" s_Zone_bool f fd) : FnOk P w K mg base CX0 1 f fd p_Zone_bool (spTruth C.kind C.zone) := by
  refine F.ok sc_Zone_bool (fun vs H Q E h => ?_) (fun cdv A outer s H vs Q E hr h => ?_)
  · obtain ⟨z, kas, ks, told, T, rfl, _⟩ := h; rfl
  · obtain ⟨z, kas, ks, told, T, rfl, hz, q⟩ := h
    have n := sc_Zone_bool.nd
    refine ⟨_, PSs.nox (pss_one (ps_ret (pe_cmp (pc_notN (pe_fld (pv 0) rfl)) rfl))), ?_⟩
    obtain ⟨dx, kt, st, nt, tt, tv, bas, h1, h2, h3, h4, h5, h6, h7, h8⟩ := hz
    refine ⟨_, rfl, z, _, dx, _, _, rfl, h1, Z.cl, Z.nTable, rfl, ?_⟩
    show Q (.bl (!decide (tv = .non))) H
    rw [tab_some h8]
    exact q
end
end KD
set_option Elab.async false
set_option linter.all false
set_option maxRecDepth 100000
set_option maxHeartbeats 4000000
namespace KD
open PySem PySem.Spec PyProof.Rows L2 KT KR
structure ZgOk (K : PySem.W.Frag) (mg : Str → Option Value) (C : Kd) : Prop where
  gZone : mg "Zone" = some (.ref C.zone)
  gMach : mg "Machine" = some (.ref C.mach)
  kl : Kl K C.zone
  most : ∃ u, Con K C.zone "MOST" (.int 2000) u
  isZZ : PySem.W.kitOne K (.ref C.zone) (.ref C.zone) = some true
  isDM : PySem.W.kitOne K (.type "dict") (.ref C.mach) = some false
  isNZ : PySem.W.kitOne K (.type "NoneType") (.ref C.zone) = some false
  isSZ : PySem.W.kitOne K (.type "str") (.ref C.zone) = some false
  isTZ : PySem.W.kitOne K (.type "tuple") (.ref C.zone) = some false
theorem zb_bind (kV doc pm : Value) (an : Option Addr) (cdv ct : Value) : ∀ (us rest : List Value), us.length = 1 →
    bindArgs (PySem.W.fnOf "bounded" "Zone.bounded" (defArgs s_Zone_bounded) (defBody s_Zone_bounded) (defScope s_Zone_bounded) .none kV doc pm an cdv ct) ⟨us ++ rest, []⟩ =
      (newTuple rest >>= fun t => pure (List.zip ([("self" : Str)]) us ++ [(("bounds" : Str), t)]))
  | [x], [], _ => rfl
  | [x], y :: r, _ => rfl
section
variable {P : Program} {w : World} {K : PySem.W.Frag} {mg : Str → Option Value} {base : Heap} {f fI : Addr} {fd : FuncData} {C : Kd}
def spBd1 (cK cZ : Addr) : Sp := fun vs H Q _ => ∃ z bt bbs bs kas ks told T, vs = [.ref z, .ref bt] ∧ H bt = some (.tup (bbs.map V.ref)) ∧ BdsAt H bbs bs ∧ ZoneAt cK cZ H z kas ks told T ∧ ZOk ks told T ∧ KM.In (nms ks) bs ∧ told.length + bs.length ≤ 1000 ∧
  ∀ z' H', Same H H' → ZoneAt cK cZ H' z' kas ks (told ++ bs) (KM.tights (nms ks) T bs) → Q (.ref z') H'
def spBd (cK cZ : Addr) : Sp := fun vs H Q _ => ∃ z bbs bs kas ks told T, vs = .ref z :: bbs.map V.ref ∧ BdsAt H bbs bs ∧ ZoneAt cK cZ H z kas ks told T ∧ ZOk ks told T ∧ KM.In (nms ks) bs ∧ told.length + bs.length ≤ 1000 ∧
  ∀ z' H', Same H H' → ZoneAt cK cZ H' z' kas ks (told ++ bs) (KM.tights (nms ks) T bs) → Q (.ref z') H'
theorem ok_bounded (Z : ZnOk K C.zone) (Y : ZgOk K mg C) (M : Mk K C.zone fI) (I2 : FnKw P w K mg base CX0 3 fI ["told", "table"] (spZ2 C.kind C.zone)) (G5 : Fd P w K mg base CX0 2 "closed" spClosed) (F : FnDf K "bounded" "Zone.bounded" s_Zone_bounded f fd) :
    FnR P w K mg base CX0 5 f (spBd C.kind C.zone) := by
  obtain ⟨oc, od, dV, kV, doc, pm, an, cdv, ct, osl, rfl, lk, hcd, hD, hK⟩ := F.ex
  have hdV : dV = .none := by
    rcases hD with ⟨_, rfl⟩ | ⟨e, _⟩
    · rfl
    · exact absurd rfl e
  subst hdV
  have R := StX.fn_star (CX := CX0) (P := P) (w := w) (mg := mg) (base := base) (k := 4) (N := n_Zone_bounded) (ps := ["self"]) (pv := "bounds") (sp := spBd1 C.kind C.zone) lk hcd sc_Zone_bounded StX.cxUp_none (zb_bind kV doc pm an cdv ct) (fun A outer s H vs Q E hr h => ?_)
  · intro A outer s H us vs Q E hr e0 r h
    obtain ⟨z, bbs, bs, kas, ks, told, T, rfl, hb, hz, ok, hin, len, q⟩ := h
    refine R A outer s H us _ Q E hr e0 r ⟨[.ref z], bbs.map V.ref, rfl, rfl, ?_, fun p hp => ?_⟩
    · rw [List.length_map, hb.len, sizeLine_eq]; omega
    · have s1 := same_new (o := .tup (bbs.map V.ref)) hp
      exact ⟨z, p, bbs, bs, kas, ks, told, T, rfl, upd_same, hb.mono s1, hz.mono s1, ok, hin, len, fun z' H' s2 hz' => q z' H' (s1.trans s2) hz'⟩
  · obtain ⟨z, bt, bbs, bs, kas, ks, told, T, rfl, hbt, hb, hz, ok, hin, len, q⟩ := h
    have hu := hu_of hr
    have n := sc_Zone_bounded.nd
    refine ⟨_, PSs.nox (pss_cons (ps_set (i := 2) n rfl (.inl rfl) (pe_tup (StX.pa_star (pe_fld (pv 0) rfl) (StX.pa_star (pv 1) pa_nil))))
      (pss_cons (ps_set (i := 3) n rfl (.inl rfl) (pe_d G5 (hr.mono (by decide)) pass0 (pa_cons (pe_fld (pv 0) rfl) (pa_cons (pe_fld (pv 0) rfl) (pa_cons (pv 1) pa_nil)))))
      (pss_one (ps_ret (pe_makeSK M I2 (hr.mono (by decide)) pass0 (C8.pe_gc (by rfl) (gref Y.gZone)) (pe_fld (pv 0) rfl) (pk_cons (pv 2) (pk_cons (pv 3) pk_nil))))))), ?_⟩
    obtain ⟨dx, kt, st, nt, tt, tv, bas, h1, h2, h3, h4, h5, h6, h7, h8⟩ := hz
    have lb := hb.len
    have lt := h7.len
    refine ⟨_, rfl, z, _, dx, _, _, rfl, h1, Z.cl, Z.nTold, rfl, tt, _, rfl, .inl (SqT.of h6), _, rfl, bt, _, rfl, .inl (SqT.of hbt), ?_, fun tp hp => ?_⟩
    · simp only [List.append_nil, List.length_append, List.length_map]
      rw [sizeLine_eq]; omega
    have s1 := same_new (o := .tup (bas.map V.ref ++ (bbs.map V.ref ++ []))) hp
    have hp1 : upd H tp (.tup (bas.map V.ref ++ (bbs.map V.ref ++ []))) tp = some (.tup ((bas ++ bbs).map V.ref)) := by rw [upd_same, List.append_nil, List.map_append]
    generalize upd H tp (.tup (bas.map V.ref ++ (bbs.map V.ref ++ []))) = H1 at s1 hp1
    refine ⟨_, rfl, z, _, dx, _, _, rfl, s1 _ _ h1, Z.cl, Z.nTable, rfl, _, rfl, z, _, dx, _, _, rfl, s1 _ _ h1, Z.cl, Z.nNames, rfl, _, rfl, ?_⟩
    refine ⟨tv, nt, bt, bbs, nms ks, T, bs, rfl, h8.mono s1, s1 _ _ h5, s1 _ _ hbt, hb.mono s1, ok.nd, ok.l7, hin, fun bv H2 s2 htv => ?_⟩
    have s12 := s1.trans s2
    have lk := h3.length
    have l1 := ok.kk.ne
    have l3 := ok.kk.le
    refine ⟨rfl, _, rfl, z, _, dx, _, _, rfl, s12 _ _ h1, Z.cl, Z.nKinds, rfl, _, rfl, _, rfl, kt, _, rfl, .inl (SqT.of (s12 _ _ h2)), rfl, fun x dx2 nx ndx hne => ⟨x, _, _, _, rfl, rfl, by rw [List.length_map, lk]; exact l1, by rw [List.length_map, lk]; exact l3, fun p np => ?_⟩⟩
    obtain ⟨e1, e2, e3, s3⟩ := mk_new (u := .tup (kas.map V.ref)) nx ndx hne np
    refine ⟨x, dx2, _, _, p, kas, ks, rfl, e1, e2, e3, h3.mono (s12.trans s3), ok.kk, ok.nd, own_in ks, .inr ⟨tp, bas ++ bbs, told ++ bs, _, rfl, s3 _ _ (s2 _ _ hp1), (h7.mono (s12.trans s3)).app (hb.mono (s12.trans s3)), htv.mono s3, fun H' s4 hz' => ⟨rfl, q x H' (s12.trans (s3.trans s4)) hz'⟩⟩⟩
def spWithin (cK cZ : Addr) : Sp := fun vs H Q _ => ∃ z kas ks told T i j c, vs = [.ref z, .str i, .str j, .int c] ∧ ZoneAt cK cZ H z kas ks told T ∧ ZOk ks told T ∧ i ∈ nms ks ∧ j ∈ nms ks ∧ -2000 ≤ c ∧ c ≤ 2000 ∧ told.length ≤ 999 ∧
  ∀ z' H', Same H H' → ZoneAt cK cZ H' z' kas ks (told ++ [(i, j, c)]) (KM.tights (nms ks) T [(i, j, c)]) → Q (.ref z') H'
theorem ok_within (Z : ZnOk K C.zone) (Y : ZgOk K mg C) (G : Fd P w K mg base CX0 2 "is_between" spBetween) (M1 : Md P w K mg base CX0 1 C.zone "need_names" (spNN C.kind C.zone)) (M2 : Md P w K mg base CX0 5 C.zone "bounded" (spBd C.kind C.zone)) (F : FnDf K "within" "Zone.within" s_Zone_within f fd) :
    FnOk P w K mg base CX0 6 f fd p_Zone_within (spWithin C.kind C.zone) := by
  refine F.ok sc_Zone_within (fun vs H Q E h => ?_) (fun cdv A outer s H vs Q E hr h => ?_)
  · obtain ⟨z, kas, ks, told, T, i, j, c, rfl, _⟩ := h; rfl
  · obtain ⟨z, kas, ks, told, T, i, j, c, rfl, hz, ok, hi, hj, c1, c2, len, q⟩ := h
    have hu := hu_of hr
    have n := sc_Zone_within.nd
    obtain ⟨mu, most⟩ := Y.most
    refine ⟨_, PSs.nox (pss_cons (ps_expr (pe_m (pv 0) Z.cl M1 (hr.mono (by decide)) pass0 (pa_cons (pv 1) (pa_cons (pv 2) pa_nil))))
      (pss_ct (ps_if (pt_not (pt_val (pe_d G (hr.mono (by decide)) pass0 (pa_cons (pv 3) (pa_cons (pe_op op_sub pe_int (pe_con (pv 0) rfl)) (pa_cons (pe_con (pv 0) rfl) pa_nil))))))
        pss_never
        pss_nil)
      (pss_one (ps_ret (pe_m (pv 0) Z.cl M2 (hr.mono (by decide)) pass0 (pa_cons (pe_tup (pa_cons (pv 1) (pa_cons (pv 2) (pa_cons (pv 3) pa_nil)))) pa_nil)))))), ?_⟩
    obtain ⟨dx, kt, st, nt, tt, tv, bas, h1, hrest⟩ := id hz
    refine ⟨_, rfl, z, dx, _, rfl, h1, rfl, _, rfl, _, rfl, z, kas, ks, told, T, i, j, rfl, hz, ok.l7, hi, hj, fun H1 s1 => ?_⟩
    refine ⟨fun σ' H' => σ' = [some (.ref z), some (.str i), some (.str j), some (.int c)] ∧ Same H H', ?_, ?_⟩
    · refine u_if (u_not (u_B ⟨_, rfl, _, rfl, z, _, dx, _, _, mu, rfl, s1 _ _ h1, Z.cl, most, rfl, _, _, rfl, rfl, _, rfl, z, _, dx, _, _, mu, rfl, s1 _ _ h1, Z.cl, most, rfl, c, _, _, rfl, _, rfl, ?_⟩))
      rw [decide_eq_true (show (0 : Int) - 2000 ≤ c by omega), decide_eq_true c2]
      exact iff0 rfl ⟨rfl, s1⟩
    · rintro σ2 H2 ⟨rfl, s2⟩
      refine ⟨_, rfl, z, dx, _, rfl, s2 _ _ h1, rfl, _, rfl, _, rfl, _, rfl, three_ok, fun p hp => ?_⟩
      have s3 := same_new (o := .tup [.str i, .str j, .int c]) hp
      refine ⟨z, [p], [(i, j, c)], kas, ks, told, T, rfl, .cons upd_same .nil, hz.mono (s2.trans s3), ok, fun e he => ?_, by simp; omega, fun z' H' s4 hz' => q z' H' (s2.trans (s3.trans s4)) hz'⟩
      rw [List.mem_singleton.mp he]
      exact ⟨hi, hj⟩
/-- (inside, outside) -/
def spSides (cK cZ : Addr) : Sp := fun vs H Q _ => ∃ z kas ks told T i j c, vs = [.ref z, .str i, .str j, .int c] ∧ ZoneAt cK cZ H z kas ks told T ∧ ZOk ks told T ∧ i ∈ nms ks ∧ j ∈ nms ks ∧ -2000 ≤ c ∧ c ≤ 2000 ∧ told.length ≤ 999 ∧
  ∀ p z1 z2 H', Same H H' → H' p = some (.tup [.ref z1, .ref z2]) → ZoneAt cK cZ H' z1 kas ks (told ++ [(i, j, c)]) (KM.tights (nms ks) T [(i, j, c)]) → ZoneAt cK cZ H' z2 kas ks (told ++ [(j, i, -c - 1)]) (KM.tights (nms ks) T [(j, i, -c - 1)]) → Q (.ref p) H'
theorem ok_sides (Z : ZnOk K C.zone) (M1 : Md P w K mg base CX0 6 C.zone "within" (spWithin C.kind C.zone)) (M2 : Md P w K mg base CX0 5 C.zone "bounded" (spBd C.kind C.zone)) (F : FnDf K "sides" "Zone.sides" s_Zone_sides f fd) :
    FnOk P w K mg base CX0 7 f fd p_Zone_sides (spSides C.kind C.zone) := by
  refine F.ok sc_Zone_sides (fun vs H Q E h => ?_) (fun cdv A outer s H vs Q E hr h => ?_)
  · obtain ⟨z, kas, ks, told, T, i, j, c, rfl, _⟩ := h; rfl
  · obtain ⟨z, kas, ks, told, T, i, j, c, rfl, hz, ok, hi, hj, c1, c2, len, q⟩ := h
    have hu := hu_of hr
    have n := sc_Zone_sides.nd
    refine ⟨_, PSs.nox (pss_one (ps_ret (pe_tup (pa_cons (pe_m (pv 0) Z.cl M1 (hr.mono (by decide)) pass0 (pa_cons (pv 1) (pa_cons (pv 2) (pa_cons (pv 3) pa_nil)))) (pa_cons (pe_m (pv 0) Z.cl M2 (hr.mono (by decide)) pass0 (pa_cons (pe_tup (pa_cons (pv 2) (pa_cons (pv 1) (pa_cons (pe_op op_sub (pe_op op_sub pe_int (pv 3)) pe_int) pa_nil)))) pa_nil)) pa_nil))))), ?_⟩
    obtain ⟨dx, kt, st, nt, tt, tv, bas, h1, hrest⟩ := id hz
    refine ⟨_, rfl, z, dx, _, rfl, h1, rfl, _, rfl, _, rfl, _, rfl, z, kas, ks, told, T, i, j, c, rfl, hz, ok, hi, hj, c1, c2, len, fun z1 H1 s1 hz1 => ?_⟩
    refine ⟨_, rfl, z, dx, _, rfl, s1 _ _ h1, rfl, _, rfl, _, rfl, _, rfl, _, _, rfl, rfl, _, _, rfl, rfl, three_ok, fun p hp => ?_⟩
    have s2 := same_new (o := .tup [.str j, .str i, .int (0 - c - 1)]) hp
    have e : (0 : Int) - c - 1 = -c - 1 := by omega
    refine ⟨z, [p], [(j, i, -c - 1)], kas, ks, told, T, rfl, .cons (by rw [← e]; exact upd_same) .nil, hz.mono (s1.trans s2), ok, fun b he => ?_, by simp; omega, fun z2 H2 s3 hz2 => ?_⟩
    · rw [List.mem_singleton.mp he]
      exact ⟨hj, hi⟩
    · refine ⟨two_ok, fun p2 hp2 => ?_⟩
      have s4 := same_new (o := .tup [.ref z1, .ref z2]) hp2
      exact q p2 z1 z2 _ (s1.trans (s2.trans (s3.trans s4))) upd_same (hz1.mono (s2.trans (s3.trans s4))) (hz2.mono s4)
end
end KD
set_option Elab.async false
set_option linter.all false
set_option maxRecDepth 100000
set_option maxHeartbeats 4000000
namespace PySem
namespace KRG
open Sem (wp)
section
variable {prog : Program} {w : World} {K : Type} [DecidableEq K] {knd : KeyKind prog w K} {A : Around} {E : Value → Shared → Prop} {s : Shared}
/-- dictPut by a key that stands by value -/
theorem put_pairs {d : Addr} {kvs : List (K × Value)} {k : K} {key v : Value} {Q : Unit → Shared → Prop} (hkey : knd.is k key = true) (hm : s.heap.DictOf knd d kvs)
    (hQ : ∀ h', h'.DictOf knd d (stored kvs k v) → Heap.SameBut d s.heap h' → Q () { s with heap := h' }) (hsz : kvs.length ≤ sizeLine) :
    wpAny (model prog w) A (dictPut d (knd.hash k) key v) Q E s := by
  obtain ⟨o, es, ep, ho, hc, hd, hk, hp, hn⟩ := hm
  have hes : es.size ≤ sizeLine := by
    have e1 := hp.length
    have e2 : es.toList.length = es.size := by simp
    omega
  unfold dictPut
  refine wpAny_bind (wpAny_dictFind_of hkey ho hd hk ?_)
  have hidx : (es.findIdx? fun e => knd.is k e.key) = kvs.findIdx? fun kv => decide (kv.1 = k) := by
    rw [← hp.findIdx k]; obtain ⟨l⟩ := es; simp
  cases hi : es.findIdx? fun e => knd.is k e.key with
  | some i =>
    refine wpAny_updateDict ho hd (hQ _ ⟨_, _, ep, Heap.get?_update_self _ ho (Obj.isFreed_of_dict (Obj.data_mapDict hd _)), hc.mapDict _, Obj.data_mapDict hd _, hk.modify _ _, ?_, ?_⟩ (Heap.SameBut.update ..))
    · rw [stored, if_pos (any_of_findIdx_some (hidx ▸ hi))]
      have hl : (es.toList.findIdx? fun e => knd.is k e.key) = some i := by rw [← hi]; obtain ⟨l⟩ := es; simp
      have := hp.modify hn hl v
      obtain ⟨l⟩ := es
      simpa using this
    · rw [stored, if_pos (any_of_findIdx_some (hidx ▸ hi)), keys_map_store]; exact hn
  | none =>
    have hnot : k ∉ kvs.map (·.1) := not_mem_of_findIdx_none (hidx ▸ hi)
    have hany : ¬ (kvs.any fun kv => decide (kv.1 = k)) = true := by
      rw [List.any_eq_true]; rintro ⟨kv, hkv, he⟩
      exact hnot (List.mem_map.mpr ⟨kv, hkv, of_decide_eq_true he⟩)
    refine wpAny_updateDictKeys (hz := hes) ho hd (hQ _ ⟨_, _, ep + 1, Heap.get?_update_self _ ho (Obj.isFreed_of_dict (Obj.data_mapDictKeys hd _)), hc.mapDictKeys _, Obj.data_mapDictKeys hd _, hk.push hkey _, ?_, ?_⟩ (Heap.SameBut.update ..))
    · rw [stored, if_neg hany]
      have := hp.append hkey (knd.hash k) v
      obtain ⟨l⟩ := es
      simpa using this
    · rw [stored, if_neg hany, List.map_append, List.nodup_append]
      refine ⟨hn, by simp, ?_⟩
      intro a ha b hb
      simp only [List.map_cons, List.map_nil, List.mem_singleton] at hb
      subst hb
      exact fun e => hnot (e ▸ ha)
/-- all pairs of the dict at o go into the dict at d -/
theorem merge_pairs (hnr : ∀ k v, knd.is k v = true → ∀ a, v ≠ .ref a) {d o : Addr} {kvs more : List (K × Value)} {Q : Unit → Shared → Prop} (hdo : d ≠ o) (hoS : (o == sysModules) = false)
    (hd : s.heap.DictOf knd d kvs) (ho : s.heap.DictOf knd o more)
    (hQ : ∀ h', h'.DictOf knd d (merged kvs more) → h'.DictOf knd o more → Heap.SameBut d s.heap h' → Q () { s with heap := h' }) (hsz : kvs.length + more.length ≤ sizeLine) :
    wpAny (model prog w) A (mergeMapping d (.ref o) false) Q E s := by
  have hT := ho.typeIs
  obtain ⟨od, esd, epd, hod, hcd, hdd, hkd, hpd, hnd⟩ := id hd
  obtain ⟨oo, eso, epo, hoo, hco, hdo', hko, hpo, hno⟩ := id ho
  have hlen : more.length = eso.size := by rw [← hpo.length]; simp
  unfold mergeMapping
  refine wpAny_bind (wpAny_isInstance hT isSubtype_dict_dict ?_)
  simp only [if_true]
  refine wpAny_bind (wpAny_specialOf hT F.slot_dict_iter.lookup (wpAny_bind (wpAny_pure ?_)))
  show wpAny _ _ (if (o == sysModules) = true then _ else _) _ _ s
  rw [if_neg (by rw [hoS]; exact Bool.false_ne_true)]
  have loop : wpAny (model prog w) A (do
      let l ← dictEntries o
      let epoch ← dictEpoch o
      forIn (List.range l.size) PUnit.unit fun i (_ : PUnit) => (do
          let l' ← dictEntries o
          match l'[i]? with
            | some e => do
              holding [e.key, e.val] (dictPut d e.hash e.key e.val)
              let ep' ← dictEpoch o
              if (ep' != epoch) = true then do
                  (unsupported "dict.changed-during-merge" : Sem PUnit)
                  pure (ForInStep.yield PUnit.unit)
                else pure (ForInStep.yield PUnit.unit)
            | _ => do
              (unsupported "dict.changed-during-merge" : Sem PUnit)
              pure (ForInStep.yield PUnit.unit) : Sem (ForInStep PUnit))
      pure ()) Q E s := by
    refine wpAny_bind (wpAny_dictEntries hoo hdo' ?_)
    refine wpAny_bind (wpAny_dictEpoch hoo hdo' ?_)
    refine wpAny_bind ?_
    rw [List.range_eq_range']
    refine wpAny_forIn_list _
      (fun rest _ s' => ∃ h' i, s' = { s with heap := h' } ∧ rest = List.range' i (eso.size - i) ∧ i ≤ eso.size ∧ h'.DictOf knd d (merged kvs (more.take i)) ∧ h'.get? o = some oo ∧ Heap.SameBut d s.heap h')
      _ ?_ ?_ _ _ ⟨s.heap, 0, rfl, by simp, Nat.zero_le _, by simpa [merged] using hd, hoo, Heap.SameBut.refl _ _⟩
    · rintro x rest b s' ⟨h', i, rfl, hr, hi, hd', hoo', hs'⟩
      have hlt : i < eso.size := by
        rcases Nat.lt_or_ge i eso.size with h | h
        · exact h
        · rw [Nat.sub_eq_zero_of_le h] at hr; simp at hr
      obtain ⟨rfl, hrest⟩ : x = i ∧ rest = List.range' (i + 1) (eso.size - (i + 1)) := by
        have e : eso.size - i = (eso.size - (i + 1)) + 1 := by omega
        rw [e, List.range'_succ] at hr
        injection hr with h1 h2
        exact ⟨h1, h2⟩
      refine wpAny_bind (wpAny_dictEntries hoo' hdo' ?_)
      rw [Array.getElem?_eq_getElem hlt]
      obtain ⟨kv, hkv⟩ : ∃ kv, more[x]? = some kv := ⟨more[x]'(by rw [hlen]; exact hlt), List.getElem?_eq_getElem _⟩
      obtain ⟨k, v⟩ := kv
      obtain ⟨hkey, hval⟩ := hpo.get? (e := eso[x]) (by simp [hlt]) hkv
      obtain ⟨k', hkey', hhash⟩ := hko eso[x] (Array.getElem_mem hlt)
      obtain rfl : k' = k := knd.inj _ _ _ hkey' hkey
      show wpAny _ _ (holding [eso[x].key, eso[x].val] (dictPut d eso[x].hash eso[x].key eso[x].val) >>= _) _ _ _
      rw [hhash, hval]
      have hmx : (merged kvs (more.take x)).length ≤ sizeLine := by
        have e1 := merged_length_le kvs (more.take x)
        have e2 : (more.take x).length ≤ more.length := by rw [List.length_take]; omega
        omega
      refine wpAny_bind (wpAny_holding (put_pairs (hsz := hmx) hkey hd' fun h'' hd'' hs'' => ?_))
      have hoo'' : h''.get? o = some oo := (hs''.2 o (Ne.symm hdo)).trans hoo'
      refine wpAny_bind (wpAny_dictEpoch hoo'' hdo' ?_)
      rw [if_neg (by simp)]
      exact wpAny_pure ⟨h'', x + 1, rfl, hrest, hlt, by rw [merged_take_succ kvs more x (k', v) hkv]; exact hd'', hoo'', hs'.trans hs''⟩
    · rintro b s' ⟨h', i, rfl, hr, hi, hd', hoo', hs'⟩
      have hin : i = eso.size := by
        rcases Nat.lt_or_ge i eso.size with h | h
        · have e : eso.size - i = (eso.size - (i + 1)) + 1 := by omega
          rw [e, List.range'_succ] at hr; exact nomatch hr
        · exact Nat.le_antisymm hi h
      refine wpAny_pure (hQ h' ?_ ⟨oo, eso, epo, hoo', hco, hdo', hko, hpo, hno⟩ hs')
      rw [hin, ← hlen, List.take_length] at hd'; exact hd'
  refine wpAny_bind (wpAny_dictEntries hod hdd ?_)
  split
  · refine wpAny_bind (wpAny_dictEntries hoo hdo' ?_)
    refine wpAny_bind ?_
    rw [← Array.forIn_toList]
    refine wpAny_forIn_list _ (fun rest _ s' => s' = s ∧ ∀ e ∈ rest, e ∈ eso.toList) _ (fun e rest b s' hI => ?_) (fun b s' hI => ?_) _ _ ⟨rfl, fun e he => he⟩
    · obtain ⟨rfl, hm⟩ := hI
      obtain ⟨k, hkey, _⟩ := hko e (by simpa using hm e (List.mem_cons_self ..))
      have hr := hnr k e.key hkey
      split
      · rename_i a ha
        exact absurd ha (hr a)
      · exact wpAny_pure ⟨rfl, fun e' he' => hm e' (List.mem_cons_of_mem _ he')⟩
    · obtain ⟨rfl, _⟩ := hI
      exact loop
  · exact loop
end
end KRG
end PySem
set_option Elab.async false
set_option linter.all false
set_option maxRecDepth 100000
set_option maxHeartbeats 4000000
namespace KR
open PySem PySem.Spec PyProof.Rows L2
theorem disp_star {prog : Program} {w : World} {A : Around} {E : Value → Shared → Prop} {s : Shared} {x k v : Sem Value} {Q : Value → Shared → Prop}
    (h : wpAny (model prog w) A (alloc { cls := Value.type "dict", data := Data.dict #[] }) (fun d s1 => wpAny (model prog w) A x (fun m s2 => wpAny (model prog w) A (mergeMapping d m false) (fun _ s3 =>
      wpAny (model prog w) A (subDict [(k, v)]) (fun e s4 => wpAny (model prog w) A (mergeMapping d (.ref e) false) (fun _ s5 => Q (.ref d) s5) (fun _ _ => False) s4) E s3) (fun _ _ => False) s2) E s1) E s) :
    wpAny (model prog w) A (dictDisplay [(none, x), (some k, v)]) Q E s := by
  unfold dictDisplay
  dsimp only
  simp only [List.forIn_cons, List.forIn_nil, pure_bind, bind_assoc, List.isEmpty_nil, if_true]
  refine wpAny_bind (wpAny_mono h (fun d s1 h1 => ?_) fun _ _ e => e)
  refine wpAny_bind (wpAny_holding (wpAny_mono h1 (fun m s2 h2 => ?_) fun _ _ e => e))
  refine wpAny_bind (wpAny_onRaise (wpAny_tryCatch (wpAny_onRaise (wpAny_holding (wpAny_mono h2 (fun _ s3 h3 => ?_) fun _ _ e => e.elim)))))
  simp only [List.nil_append, List.length_singleton]
  rw [if_neg (by decide)]
  simp only [pure_bind, List.isEmpty_cons, Bool.false_eq_true, if_false]
  refine wpAny_bind (wpAny_bind (wpAny_holding (wpAny_mono h3 (fun e s4 h4 => ?_) fun _ _ e => e)))
  refine wpAny_bind (wpAny_onRaise (wpAny_holding (wpAny_mono h4 (fun _ s5 h5 => ?_) fun _ _ e => e.elim)))
  exact wpAny_pure (wpAny_pure h5)
theorem mix_nr {P : Program} {w : World} (k : Key) (v : Value) (h : (mixKind P w).is k v = true) (a : Addr) : v ≠ .ref a := by
  rintro rfl
  rcases keyIs_shape (show keyIs k (.ref a) = true from h) with ⟨i, t, _, e⟩ | ⟨x, t, _, e⟩ <;> cases e
section
variable {X : Cx}
/-- {**e, k: v} -/
def tDstar (te tk tv : TE) : TE := fun σ H Q => ∀ d, H d = none → te σ (upd H d (.dK [])) fun x H1 => ∃ a kvs, x = .ref a ∧ a ≠ d ∧ H1 a = some (.dK kvs) ∧ H1 d = some (.dK []) ∧
  ∀ e, e ≠ d → H1 e = none → tk σ (upd (upd H1 d (.dK kvs)) e (.dK [])) fun y H2 => tv σ H2 fun v H3 => ∃ key : Key, y = kV key ∧ H3 e = some (.dK []) ∧ H3 d = some (.dK kvs) ∧ kvs.length < sizeLine ∧
    Q (.ref d) (upd (upd H3 e (.dK [(key, v)])) d (.dK (putK kvs key v)))
theorem pe_dstar {ve ke we : Expr} {te tk tv : TE} {pos : Pos} (he : PE X ve te) (hk : PE X ke tk) (hv : PE X we tv) : PE X (.Dict [none, some ke] [ve, we] pos) (tDstar te tk tv) := by
  refine ⟨fun pins s σ H Q I q => ?_⟩
  rw [arm_eval_Dict]
  refine wpAny_bind (wpAny_standAt ?_)
  show wpAny _ _ (dictDisplay [(none, do let x ← eval ve X.env; standAt pos; pure x), (some (eval ke X.env), do let x ← eval we X.env; standAt pos; pure x)]) _ _ s
  refine disp_star (wpAny_alloc ?_)
  have hn := I.hok.fresh (Nat.le_refl s.heap.objs.size)
  have I1 := I.laid (a := s.heap.objs.size) (o := .dK []) (h' := s.heap.push { cls := .type "dict", data := .dict #[] }) (t' := s.toks) (fun _ _ q => Heap.get?_push_of_some _ q) (Nat.le_refl _) (dk_empty s.heap I.big)
  generalize s.heap.objs.size = d at *
  refine wpAny_bind (thn (he.run pins _ σ _ _ I1 (q d hn)) fun u s2 ⟨x, H1, I2, rx, a, kvs, ex, hne, ha, hd, q2⟩ => wpAny_bind (wpAny_standAt (wpAny_pure ?_)))
  subst ex
  obtain rfl : u = Value.ref a := rx
  obtain ⟨za, ya, va, ra, da⟩ := dk_of I2.hok ha
  obtain ⟨zd, yd, vd, rd, dd⟩ := dk_of I2.hok hd
  cases rd
  have hz : (([] : List (Key × Value)).length + va.length) ≤ sizeLine := by rw [List.length_nil, Nat.zero_add, ← ra.length]; exact za
  refine PySem.KRG.merge_pairs (knd := mixKind X.prog X.w) mix_nr (Ne.symm hne) ya dd da (fun h3 d3 a3 sb => ?_) hz
  have nd : (va.map (·.1)).Nodup := by obtain ⟨_, _, _, _, _, _, _, _, hn⟩ := da; exact hn
  rw [merged_nil_of_nodup va nd] at d3
  have I3 : Inv X pins σ (upd H1 d (.dK kvs)) { s2 with heap := h3 } := by
    have he : ∃ q, h3.get? d = some q := let ⟨q, _, _, hq, _⟩ := d3; ⟨q, hq⟩
    exact d_write I2 (by rw [hd]; exact True.intro) sb he (dk_new za yd ra d3)
  -- the one more pair
  refine wpAny_subDict (knd := mixKind X.prog X.w) (by simp) ?_
  have hn3 := I3.hok.fresh (Nat.le_refl h3.objs.size)
  have I4 := I3.laid (a := h3.objs.size) (o := .dK []) (h' := h3.push { cls := .type "dict", data := .dict #[] }) (t' := s2.toks) (fun _ _ q => Heap.get?_push_of_some _ q) (Nat.le_refl _) (dk_empty h3 I3.big)
  show wpAny _ _ (evalPairs [(eval ke X.env, do let x ← eval we X.env; standAt pos; pure x)]) _ _ { s2 with heap := h3.push { cls := .type "dict", data := .dict #[] } }
  generalize he : h3.objs.size = e at *
  have ed : e ≠ d := fun z => by rw [z, upd_same] at hn3; cases hn3
  have hn1 : H1 e = none := by rw [upd_ne ed] at hn3; exact hn3
  refine PySem.evalPairs_cons (thn (hk.run pins _ σ _ _ I4 (q2 e ed hn1)) fun kv s5 ⟨y, H5, I5, ry, q5⟩ => wpAny_bind (thn (hv.run pins s5 σ H5 _ I5 q5) fun vv s6 ⟨v, H6, I6, rv, key, ey, he6, hd6, hl, q6⟩ => wpAny_bind (wpAny_standAt (wpAny_pure (PySem.evalPairs_nil ?_)))))
  subst ey
  obtain ⟨ze, ye, ve', re, de⟩ := dk_of I6.hok he6
  cases re
  obtain ⟨zd6, yd6, vd6, rd6, dd6⟩ := dk_of I6.hok hd6
  have hkey : (mixKind X.prog X.w).is key kv = true := kV_is ry
  refine ⟨[(key, vv)], ⟨hkey, rfl, True.intro⟩, de, fun h7 d7 sb7 => ?_⟩
  have m1 : merged [] [(key, vv)] = [(key, vv)] := rfl
  rw [m1] at d7
  have r7 : KV [(key, v)] [(key, vv)] := .cons ⟨rfl, rv⟩ .nil
  have I7 : Inv X pins σ (upd H6 e (.dK [(key, v)])) { s6 with heap := h7, toks := s6.toks + 1 } := by
    have hx : ∃ q, h7.get? e = some q := let ⟨q, _, _, hq, _⟩ := d7; ⟨q, hq⟩
    exact d_write I6 (by rw [he6]; exact True.intro) sb7 hx (dk_new (by rw [sizeLine_eq]; simp) ye r7 d7)
  have dd7 : h7.DictOf (mixKind X.prog X.w) d vd6 := dd6.sameBut sb7 (Ne.symm ed)
  have l6 := rd6.length
  refine PySem.KRG.merge_pairs (knd := mixKind X.prog X.w) (s := { s6 with heap := h7, toks := s6.toks + 1 }) mix_nr (Ne.symm ed) ye dd7 d7 (fun h8 d8 a8 sb8 => ?_) (by simp; omega)
  have hd7 : upd H6 e (.dK [(key, v)]) d = some (.dK kvs) := by rw [upd_ne (Ne.symm ed)]; exact hd6
  refine ⟨.ref d, _, ?_, rfl, q6⟩
  have hx : ∃ q, h8.get? d = some q := let ⟨q, _, _, hq, _⟩ := d8; ⟨q, hq⟩
  have rs : KV (putK kvs key v) (merged vd6 [(key, vv)]) := rd6.put key rv
  have hlp : (putK kvs key v).length ≤ sizeLine := by have := length_putK kvs key v; omega
  exact d_write (t' := s6.toks + 1) I7 (by rw [hd7]; exact True.intro) sb8 hx (dk_new hlp yd6 rs d8)
end
end KR
set_option Elab.async false
set_option linter.all false
set_option maxRecDepth 100000
set_option maxHeartbeats 4000000
namespace KD
open PySem PySem.Spec PyProof.Rows L2 KT KR
/-- a point: its numbers by scale -/
structure PtAt (H : Hp) (d : Addr) (S : List Str) (p : Str → Int) : Prop where
  ex : ∃ kvs, H d = some (.dK kvs) ∧ kvs.length = S.length ∧ ∀ x ∈ S, valV kvs (.inr x) = some (.int (p x))
  nn : ∀ x ∈ S, 0 ≤ p x
  z : p "byte" = 0
theorem PtAt.mono {H H' : Hp} {d : Addr} {S : List Str} {p : Str → Int} (s : Same H H') (h : PtAt H d S p) : PtAt H' d S p := ⟨let ⟨kvs, e, r⟩ := h.ex; ⟨kvs, s _ _ e, r⟩, h.nn, h.z⟩
def inPt (told : List Bd) (p : Str → Int) : Bool := told.all fun e => decide (p e.1 - p e.2.1 ≤ e.2.2)
theorem okG_tup3 {K : PySem.W.Frag} {a b c : Nat} : OkG (gTup K 3 (gCons (gName a) (gCons (gName b) (gCons (gName c) gNil)))) := fun x σ H Q Q' hq h => by
  obtain ⟨p, xs, e, hs, hl, v1, r1, e1, v2, r2, e2, v3, r3, e3, e4, q⟩ := h
  exact ⟨p, xs, e, hs, hl, v1, r1, e1, v2, r2, e2, v3, r3, e3, e4, hq _ _ q⟩
theorem bools_of {H : Hp} {f : Bd → Bool} : ∀ {bas : List Addr} {bs : List Bd} {ys : List V}, BdsAt H bas bs → Paired (fun x y => ∃ a, x = V.ref a ∧ ∀ e, BdAt H a e → y = .bl (f e)) (bas.map V.ref) ys → ys = (bs.map f).map V.bl
  | _, _, _, .nil, .nil => rfl
  | _, _, _, .cons h t, .cons ⟨a, e, r⟩ t2 => by
    cases e
    rw [List.map_cons, List.map_cons, ← bools_of t t2, r _ h]
theorem BdAt.uniq {H : Hp} {a : Addr} {e e' : Bd} (h : BdAt H a e) (h' : BdAt H a e') : e = e' := by
  obtain ⟨x, y, c⟩ := e
  obtain ⟨x', y', c'⟩ := e'
  unfold BdAt at h h'
  rw [h] at h'
  simp at h'
  simp [h']
section
variable {P : Program} {w : World} {K : PySem.W.Frag} {mg : Str → Option Value} {base : Heap} {f fI : Addr} {fd : FuncData} {C : Kd}
def spCon (cK cZ : Addr) : Sp := fun vs H Q _ => ∃ z kas ks told T d p, vs = [.ref z, .ref d] ∧ ZoneAt cK cZ H z kas ks told T ∧ ZOk ks told T ∧ told.length ≤ 1000 ∧ PtAt H d (scl ks) p ∧ ∀ H', Same H H' → Q (.bl (inPt told p)) H'
theorem ok_contains (B : Blt mg) (T : KdOk K mg C) (Z : ZnOk K C.zone) (Y : ZgOk K mg C) (G : Fd P w K mg base CX0 2 "is_point" spPoint) (F : FnDf K "__contains__" "Zone.__contains__" s_Zone_contains f fd) :
    FnOk P w K mg base CX0 3 f fd p_Zone_contains (spCon C.kind C.zone) := by
  refine F.ok sc_Zone_contains (fun vs H Q E h => ?_) (fun cdv A outer s H vs Q E hr h => ?_)
  · obtain ⟨z, kas, ks, told, T', d, p, rfl, _⟩ := h; rfl
  · obtain ⟨z, kas, ks, told, T', d, p, rfl, hz, ok, lt, hp, q⟩ := h
    have hu := hu_of hr
    have n := sc_Zone_contains.nd
    refine ⟨_, PSs.nox (pss_cons (ps_set (i := 2) n rfl (.inl rfl) (pv 1))
      (pss_ct (ps_if (pt_val (pe_callB call_isi (by rfl) B.isinstance (by decide +kernel) (pa_cons (pv 1) (pa_cons (C8.pe_gc (by rfl) (gref Y.gMach)) pa_nil))))
        pss_never
        pss_nil)
      (pss_ct (ps_if (pt_not (pt_val (pe_d G (hr.mono (by decide)) pass0 (pa_cons (pv 2) (pa_cons (pe_fld (pv 0) rfl) pa_nil)))))
        pss_never
        pss_nil)
      (pss_cons (ps_set (i := 3) n rfl (.inr rfl) (pe_dstar (pv 2) (C8.pe_gc (by rfl) T.gBYTE) pe_int))
      (pss_one (ps_ret (pe_callB (cr_all rfl) (by rfl) B.all (by decide +kernel) (pa_cons (pe_lc (own := [("i", 4), ("j", 5), ("c", 6)]) (g := gTup K 3 (gCons (gName 4) (gCons (gName 5) (gCons (gName 6) (gNil))))) rfl n (pi_tup (pe_fld (pv 0) rfl)) (blkOk_by (N := n_Zone_contains) (sc := defScope s_Zone_contains) (by decide +kernel)) (fun _ _ _ _ _ => (pg_tup rfl (pgs_cons (pg_name (i := 4) n rfl (.inl rfl)) (pgs_cons (pg_name (i := 5) n rfl (.inl rfl)) (pgs_cons (pg_name (i := 6) n rfl (.inl rfl)) pgs_nil))))) (fun _ _ _ _ _ => pts_nil) (fun _ _ _ _ _ => (pe_cmpR op_le (pe_op op_sub (pe_dget hu (pv 3) (pv 4) (fun _ _ => rfl)) (pe_dget hu (pv 3) (pv 5) (fun _ _ => rfl))) (pv 6) (nomark _)))) pa_nil)))))))), ?_⟩
    obtain ⟨kvs, hd, hl, hv⟩ := hp.ex
    obtain ⟨dx, kt, st, nt, tt, tv, bas, h1, h2, h3, h4, h5, h6, h7, h8⟩ := hz
    refine ⟨_, rfl, ?_⟩
    refine ⟨fun σ' H' => σ' = [some (.ref z), some (.ref d), some (.ref d), none, none, none, none, none] ∧ H' = H, ?_, ?_⟩
    · exact u_if (u_B ⟨_, rfl, ⟨_, _, _, _, false, rfl, .own C.mach, .base (.dK hd), Y.isDM, false, rfl, iff0 rfl ⟨rfl, rfl⟩⟩⟩)
    rintro σ1 H1 ⟨rfl, rfl⟩
    refine ⟨fun σ' H' => σ' = [some (.ref z), some (.ref d), some (.ref d), none, none, none, none, none] ∧ Same H1 H', ?_, ?_⟩
    · refine u_if (u_not (u_B ⟨_, rfl, _, rfl, z, _, dx, _, _, rfl, h1, Z.cl, Z.nScales, rfl, d, kvs, st, scl ks, rfl, hd, h4, hl, ?_, fun x hx => ⟨p x, hv x hx, hp.nn x hx⟩, fun H' s1 => ⟨true, rfl, iff0 rfl ⟨rfl, s1⟩⟩⟩))
      rw [scl_len]; have := ok.kk.le; omega
    rintro σ2 H2 ⟨rfl, s2⟩
    -- the numbers
    intro e he
    have hd2 := s2 _ _ hd
    have de : d ≠ e := fun z => by rw [z, he] at hd2; cases hd2
    have lk : kvs.length ≤ 6 := by rw [hl, scl_len]; have := ok.kk.le; omega
    refine ⟨_, rfl, d, kvs, rfl, de, by rw [upd_ne de]; exact hd2, upd_same, fun e2 ne2 he2 => ?_⟩
    rw [upd_ne ne2] at he2
    refine ⟨.inr "byte", rfl, upd_same, by rw [upd_ne (Ne.symm ne2), upd_same], by rw [sizeLine_eq]; omega, ?_⟩
    generalize hH3 : upd (upd (upd (upd (upd H2 e (.dK [])) e (.dK kvs)) e2 (.dK [])) e2 (.dK [(.inr "byte", .int 0)])) e (.dK (putK kvs (.inr "byte") (.int 0))) = H3
    have e3 : H3 e = some (.dK (putK kvs (.inr "byte") (.int 0))) := by rw [← hH3, upd_same]
    have s3 : Same H2 H3 := fun b o hb => by
      have b1 : b ≠ e := ne_of_none hb he
      have b2 : b ≠ e2 := ne_of_none hb he2
      rw [← hH3, upd_ne b1, upd_ne b2, upd_ne b2, upd_ne b1, upd_ne b1]; exact hb
    have s03 := s2.trans s3
    have val : ∀ x, x ∈ nms ks → valV (putK kvs (.inr "byte") (.int 0)) (.inr x) = some (.int (p x)) := fun x hx => by
      rw [valV_put]
      by_cases ex : x = "byte"
      · rw [if_pos (by rw [ex]), ex, hp.z]
      · rw [if_neg (fun z => ex (Sum.inr.inj z))]
        rcases List.mem_cons.mp hx with z | z
        · exact absurd z ex
        · exact hv x z
    refine ⟨_, rfl, z, _, dx, _, _, rfl, s03 _ _ h1, Z.cl, Z.nTold, rfl, tt, rfl, ⟨_, SqT.of (s03 _ _ h6)⟩, fun D hD => ?_⟩
    refine lcm_tup (xs := bas.map V.ref) (H0 := H3) (R := fun x y _ => ∃ a, x = V.ref a ∧ ∀ e, BdAt H1 a e → y = .bl (decide (p e.1 - p e.2.1 ≤ e.2.2))) (fun _ _ _ _ _ h => h) okG_tup3 (Same.refl _) hD (SqT.of (s03 _ _ h6)) (by rw [List.length_map, h7.len, sizeLine_eq]; omega) (fun y hy => ?_) ?_
    · obtain ⟨a, ha, rfl⟩ := List.mem_map.mp hy
      intro H4 acc Ky s4 hD4 ky
      obtain ⟨i, hi⟩ := List.getElem?_of_mem ha
      obtain ⟨⟨x, y, c⟩, hb1, hb2⟩ := h7.get hi
      obtain ⟨hx, hy⟩ := ok.inn _ (mem_get hb1)
      have gx : DGet H4 e (.str x) (some (.int (p x))) := val x hx ▸ DGet.k (k := .inr x) (s4 _ _ e3)
      have gy : DGet H4 e (.str y) (some (.int (p y))) := val y hy ▸ DGet.k (k := .inr y) (s4 _ _ e3)
      refine ⟨a, _, rfl, SqT.of ((s03.trans s4) _ _ hb2), rfl, _, _, rfl, _, _, rfl, _, _, rfl, rfl, rfl, ?_⟩
      refine ⟨_, rfl, _, rfl, e, _, rfl, gx, _, rfl, _, rfl, e, _, rfl, gy, _, _, rfl, rfl, _, rfl, _, _, rfl, rfl, ky _ _ (Same.refl _) ⟨a, rfl, fun b hb => ?_⟩⟩
      obtain rfl := hb2.uniq hb
      rfl
    · intro H4 ys s4 hD4 hp4
      have ey := bools_of h7 hp4
      subst ey
      refine ⟨D, _, rfl, SqL.of hD4, ?_⟩
      have ea : ((told.map fun e => decide (p e.1 - p e.2.1 ≤ e.2.2)).all id) = inPt told p := by
        unfold inPt
        rw [List.all_map]; rfl
      rw [ea]
      exact q _ (s03.trans s4)
end
end KD
set_option Elab.async false
set_option linter.all false
set_option maxRecDepth 100000
set_option maxHeartbeats 4000000
namespace PySem
namespace KRD
open Sem (wp)
open SeqAt
section
variable {prog : Program} {w : World} {K : Type} [DecidableEq K] {knd : HeapKind prog w K} {A : Around} {E : Value → Shared → Prop} {s : Shared}
inductive Hits {K : Type} [DecidableEq K] (A : Around) (s : Shared) (kb : List (K × Addr × Value)) : List (K × Addr × Value) → Bool → Prop
  | nil : Hits A s kb [] true
  | miss {k : K} {p : Addr × Value} {r : List (K × Addr × Value)} : atKey kb k = none → Hits A s kb ((k, p) :: r) false
  | hit {k : K} {p q : Addr × Value} {r : List (K × Addr × Value)} {e b : Bool} : atKey kb k = some q → SeqAt.EqAt A s p.2 q.2 e → Hits A s kb r b → Hits A s kb ((k, p) :: r) (e && b)
theorem Hits.inv {kb : List (K × Addr × Value)} {k : K} {p : Addr × Value} {r : List (K × Addr × Value)} {b : Bool} (h : Hits A s kb ((k, p) :: r) b) :
    (atKey kb k = none ∧ b = false) ∨ ∃ q e b', atKey kb k = some q ∧ SeqAt.EqAt A s p.2 q.2 e ∧ Hits A s kb r b' ∧ b = (e && b') := by
  cases h with
  | miss hn => exact .inl ⟨hn, rfl⟩
  | hit hy he hr => exact .inr ⟨_, _, _, hy, he, hr, rfl⟩
theorem same_pairs {nm : String} {a b : Addr} {ka kb : List (K × Addr × Value)} {r : Bool} {Q : Bool → Shared → Prop} (hu : knd.room A) (ha : (a == sysModules) = false) (hb : (b == sysModules) = false)
    (da : s.heap.DictOfH knd a ka) (db : s.heap.DictOfH knd b kb) (hits : ka.length = kb.length → Hits A s kb ka r) (h : Q (ka.length == kb.length && r) s) :
    wpAny (model prog w) A (Builtin.Dict.samePairs nm a b) Q E s := by
  obtain ⟨oa, es, ep, hoa, _, hda, hea, hisa, hna⟩ := da
  obtain ⟨ob, es', ep', hob, _, hdb, heb, hisb, hnb⟩ := db
  have hla : ka.length = es.size := (size_of_entries hea).symm
  have hlb : kb.length = es'.size := (size_of_entries heb).symm
  rw [hla, hlb] at h
  unfold Builtin.Dict.samePairs Builtin.Dict.showsAll
  rw [if_neg (show ¬ (a == sysModules) = true by rw [ha]; exact Bool.false_ne_true), if_neg (show ¬ (b == sysModules) = true by rw [hb]; exact Bool.false_ne_true)]
  refine wpAny_bind (wpAny_pure (wpAny_bind (wpAny_pure ?_)))
  refine wpAny_bind (wpAny_dictEntries hoa hda ?_)
  dsimp only
  refine wpAny_bind (wpAny_dictEntries hob hdb ?_)
  by_cases hsz : es.size = es'.size
  case neg =>
    rw [if_pos (by simpa using hsz)]
    have hbf : (es.size == es'.size) = false := by simpa using hsz
    rw [hbf, Bool.false_and] at h
    exact wpAny_bind (wpAny_rule (wpAny_pure h))
  case pos =>
    have h' : Q r s := by simpa [hsz] using h
    have hits' := hits (by rw [hla, hlb]; exact hsz)
    rw [if_neg (by rw [hsz]; simp)]
    refine wpAny_bind (wpAny_dictEpoch hoa hda ?_)
    refine wpAny_bind ?_
    rw [Std.Legacy.Range.forIn_eq_forIn_range']
    simp only [Std.Legacy.Range.size, Nat.sub_zero, Nat.add_sub_cancel, Nat.div_one]
    refine wpAny_forIn_list _
      (fun rest q s' => s' = s ∧ q = (none, ()) ∧ ∃ i, rest = List.range' i (es.size - i) ∧ i ≤ es.size ∧ Hits A s kb (ka.drop i) r)
      _ ?_ ?_ _ _ ⟨rfl, rfl, 0, by simp, Nat.zero_le _, hits'⟩
    · rintro x rest q s' ⟨rfl, rfl, i, hr, hi, hpre⟩
      have hlt : i < es.size := by
        rcases Nat.lt_or_ge i es.size with h | h
        · exact h
        · rw [Nat.sub_eq_zero_of_le h] at hr; simp at hr
      obtain ⟨rfl, hrest⟩ : x = i ∧ rest = List.range' (i + 1) (es.size - (i + 1)) := by
        have e : es.size - i = (es.size - (i + 1)) + 1 := by omega
        rw [e, List.range'_succ] at hr
        injection hr with h1 h2
        exact ⟨h1, h2⟩
      refine wpAny_bind (wpAny_dictEntries hoa hda ?_)
      have hlt' : x < ka.length := by rw [hla]; exact hlt
      obtain ⟨k, c, v, hkv⟩ : ∃ k c v, ka[x] = (k, c, v) := ⟨_, _, _, rfl⟩
      have hdrop : ka.drop x = (k, c, v) :: ka.drop (x + 1) := by rw [← hkv]; exact List.drop_eq_getElem_cons hlt'
      have hkx : ka[x]? = some (k, c, v) := by rw [List.getElem?_eq_getElem hlt', hkv]
      have hex : es[x]? = some (entryOfKey knd (k, c, v)) := by rw [entry_at hea x, hkx]; rfl
      have hkey : knd.is s'.heap k c := hisa (k, c, v) (List.mem_of_getElem? hkx)
      rw [hex]
      rw [hdrop] at hpre
      show wpAny _ _ (holding [Value.ref c, v] _ >>= _) _ _ _
      refine wpAny_bind (wpAny_holding (wpAny_bind (wpAny_dictFind_heap (k := k) (a := c) hu hkey hob hdb heb hisb hnb (fun hno => ?_) (fun j p hj => ?_))))
      · rcases hpre.inv with ⟨_, er⟩ | ⟨y, _, _, hy, _⟩
        · rw [er] at h'
          refine wpAny_pure ?_
          show wpAny _ _ (if (!false) = true then _ else _) _ _ _
          rw [if_pos (by decide)]
          exact wpAny_pure (wpAny_pure h')
        · rw [atKey_none_of_get hno] at hy; exact nomatch hy
      · have hv' := atKey_of_get hnb hj
        refine wpAny_bind (wpAny_dictEntries hob hdb ?_)
        have hej : es'[j]? = some (entryOfKey knd (k, p)) := by rw [entry_at heb j, hj]; rfl
        rw [hej]
        rcases hpre.inv with ⟨hn, _⟩ | ⟨y, e, b', hy, he, hrr, er⟩
        · rw [hv'] at hn; exact nomatch hn
        · have ey : p = y := Option.some.inj (hv'.symm.trans hy)
          rw [← ey] at he
          refine wpAny_holding (he prog w _ _ ?_)
          cases e with
          | false =>
            rw [er, Bool.false_and] at h'
            show wpAny _ _ (if (!false) = true then _ else _) _ _ _
            rw [if_pos (by decide)]
            exact wpAny_pure (wpAny_pure h')
          | true =>
            rw [Bool.true_and] at er
            rw [← er] at hrr
            show wpAny _ _ (if (!true) = true then _ else _) _ _ _
            rw [if_neg (by decide)]
            refine wpAny_bind (wpAny_dictEpoch hoa hda ?_)
            rw [if_neg (by simp)]
            exact wpAny_pure ⟨rfl, rfl, x + 1, hrest, hlt, hrr⟩
    · rintro q s' ⟨rfl, rfl, i, hr, hi, hpre⟩
      have hin : i = es.size := by
        rcases Nat.lt_or_ge i es.size with h | h
        · have e : es.size - i = (es.size - (i + 1)) + 1 := by omega
          rw [e, List.range'_succ] at hr; exact nomatch hr
        · exact Nat.le_antisymm hi h
      refine wpAny_pure ?_
      rw [hin, ← hla, List.drop_length] at hpre
      cases hpre
      exact h'
theorem eq_dicts {a b : Addr} {ka kb : List (K × Addr × Value)} {r : Bool} {Q : Value → Shared → Prop} (hr : knd.room A.in1) (ha : (a == sysModules) = false) (hb : (b == sysModules) = false)
    (da : s.heap.DictOfH knd a ka) (db : s.heap.DictOfH knd b kb) (hu : A.units < cLine) (hits : ka.length = kb.length → Hits A.in1 s kb ka r) (h : Q (.bool (ka.length == kb.length && r)) s) :
    wpAny (model prog w) A (compareOp .Eq (.ref a) (.ref b)) Q E s := by
  refine wpAny_richCompare_same_room (op := .Eq) da.typeIs db.typeIs PySem.F.slot_dict_eq (wpAny_call_entry PySem.F.slot_dict_eq da.typeIs PySem.F.entry_dict_eq ?_ (PySem.F.args_dict_eq_2 _ _)) hu
  show wpAny _ _ (Builtin.Dict.dictSlotArgs "__eq__" ⟨[.ref a, .ref b], []⟩ >>= _) _ _ s
  refine wpAny_bind ?_
  unfold Builtin.Dict.dictSlotArgs
  refine wpAny_bind (wpAny_notOrdered_dict da.typeIs ?_)
  show wpAny _ _ (pure (Value.ref a, Value.ref b)) _ _ s
  refine wpAny_pure ?_
  refine wpAny_bind (wpAny_isInstance (T := "dict") db.typeIs PySem.F.sub_dict_dict ?_)
  simp only [Bool.not_true, Bool.false_eq_true, if_false]
  refine wpAny_bind (wpAny_pure (wpAny_bind (wpAny_pure ?_)))
  refine wpAny_bind (same_pairs hr ha hb da db hits ?_)
  refine wpAny_pure ⟨_, rfl, ?_, ?_⟩
  · exact fun x => nomatch x
  · simpa using h
/-- dict.__eq__ of a dict and None -/
theorem dict_declines {a : Addr} {Q : Value → Shared → Prop} (da : s.TypeIs (.ref a) "dict") (h : Q .notImplemented s) : wpAny (model prog w) A (call (.builtin "dict.__eq__") [.ref a, .none]) Q E s := by
  refine wpAny_call_entry PySem.F.slot_dict_eq da PySem.F.entry_dict_eq ?_ (PySem.F.args_dict_eq_2 _ _)
  show wpAny _ _ (Builtin.Dict.dictSlotArgs "__eq__" ⟨[.ref a, .none], []⟩ >>= _) _ _ s
  refine wpAny_bind ?_
  unfold Builtin.Dict.dictSlotArgs
  refine wpAny_bind (wpAny_notOrdered_dict da ?_)
  show wpAny _ _ (pure (Value.ref a, Value.none)) _ _ s
  refine wpAny_pure ?_
  refine wpAny_bind (wpAny_isInstance (v := .none) (T := "NoneType") rfl F.sub_NoneType_dict ?_)
  simp only [Bool.not_false, if_true]
  exact wpAny_bind (wpAny_rule (wpAny_pure ⟨_, rfl, h⟩))
theorem eq_dict_none {a : Addr} {Q : Value → Shared → Prop} (da : s.TypeIs (.ref a) "dict") (hu : A.units < cLine) (h : Q (.bool false) s) : wpAny (model prog w) A (compareOp .Eq (.ref a) .none) Q E s :=
  rc_eq_decline_or (k := false) da (b := .none) rfl (by decide) F.sub_NoneType_dict F.slot_dict_eq F.slot_NoneType_eq_refl
    (fun _ hq => dict_declines da hq)
    (fun _ hq => call_gives F.slot_NoneType_eq_refl rfl F.entry_NoneType_eq (F.args_NoneType_eq_2 _ _) (NoneType___eq___none_ref_0 a) hq)
    (fun _ hq => wpAny_of_eq (rfl : isSame (.ref a) .none = pure false) hq) (.inr hu) h
theorem eq_none_dict {a : Addr} {Q : Value → Shared → Prop} (da : s.TypeIs (.ref a) "dict") (hu : A.units < cLine) (h : Q (.bool false) s) : wpAny (model prog w) A (compareOp .Eq .none (.ref a)) Q E s :=
  rc_eq_decline_or (k := false) (a := .none) rfl da (by decide) F.sub_dict_NoneType F.slot_NoneType_eq F.slot_dict_eq_refl
    (fun _ hq => call_gives F.slot_NoneType_eq rfl F.entry_NoneType_eq (F.args_NoneType_eq_2 _ _) (NoneType___eq___none_ref_0 a) hq)
    (fun _ hq => dict_declines da hq)
    (fun _ hq => wpAny_of_eq (rfl : isSame .none (.ref a) = pure false) hq) (.inr hu) h
end
end KRD
end PySem
set_option Elab.async false
set_option linter.all false
set_option maxRecDepth 100000
set_option maxHeartbeats 4000000
namespace KD
open PySem PySem.Spec PyProof.Rows L2 KR
theorem valV_mem : ∀ {kvs : List (List Key × V)} {k : List Key} {v : V}, (kvs.map (·.1)).Nodup → (k, v) ∈ kvs → valV kvs k = some v
  | [], _, _, _, h => by cases h
  | p :: r, k, v, nd, h => by
    rw [List.map_cons, List.nodup_cons] at nd
    unfold valV
    rw [List.find?_cons]
    rcases List.mem_cons.mp h with e | h
    · rw [← e, decide_eq_true rfl]; rfl
    · have hne : ¬ p.1 = k := fun e => nd.1 (List.mem_map.mpr ⟨(k, v), h, e.symm⟩)
      rw [decide_eq_false hne]
      exact valV_mem nd.2 h
theorem mem_valV {kvs : List (List Key × V)} {k : List Key} {v : V} (h : valV kvs k = some v) : (k, v) ∈ kvs := by
  unfold valV at h
  obtain ⟨p, hp, e⟩ := Option.map_eq_some_iff.mp h
  have h1 := List.mem_of_find?_eq_some hp
  have h2 : p.1 = k := of_decide_eq_true (List.find?_some (p := fun kv : List Key × V => decide (kv.1 = k)) hp)
  rw [← h2, ← e]
  exact h1
theorem Rep.at_ {N : List Str} {kvs : List (List Key × V)} {T : Tb} (r : Rep N kvs T) {p : List Key × V} (h : p ∈ kvs) : ∃ x y i, x ∈ N ∧ y ∈ N ∧ p = (ky x y, V.int i) ∧ T x y = some i := by
  obtain ⟨x, y, i, hx, hy, e⟩ := r.ent p h
  refine ⟨x, y, i, hx, hy, e, ?_⟩
  have h2 := valV_mem r.nd (e ▸ h)
  rw [r.val] at h2
  cases q : T x y with
  | none => rw [q] at h2; cases h2
  | some t =>
    rw [q] at h2
    have := Option.some.inj h2
    cases this; rfl
theorem Rep.mem {N : List Str} {kvs : List (List Key × V)} {T : Tb} (r : Rep N kvs T) {x y : Str} {i : Int} (h : T x y = some i) : (ky x y, V.int i) ∈ kvs := mem_valV (by rw [r.val, h]; rfl)
def eqB (kvs ls : List (List Key × V)) : Bool := kvs.length == ls.length && kvs.all fun p => decide (valV ls p.1 = some p.2)
theorem sub_back {α : Type} [DecidableEq α] {l m : List α} (nd : l.Nodup) (s : ∀ x, x ∈ l → x ∈ m) (h : m.length ≤ l.length) {x : α} (hx : x ∈ m) : x ∈ l := by
  by_cases e : x ∈ l
  · exact e
  · have nd2 : (x :: l).Nodup := List.nodup_cons.mpr ⟨e, nd⟩
    have := List.Nodup.length_le_of_subset nd2 (l₂ := m) fun y hy => (List.mem_cons.mp hy).elim (fun q => q ▸ hx) (s y)
    rw [List.length_cons] at this
    omega
theorem eqB_iff {N : List Str} {kvs ls : List (List Key × V)} {T T' : Tb} (r : Rep N kvs T) (r' : Rep N ls T') : eqB kvs ls = true ↔ T = T' := by
  unfold eqB
  rw [Bool.and_eq_true, beq_iff_eq, List.all_eq_true]
  constructor
  · rintro ⟨hl, ha⟩
    have sub : ∀ x y i, T x y = some i → T' x y = some i := fun x y i h => by
      have h1 := of_decide_eq_true (ha _ (r.mem h))
      obtain ⟨x', y', i', _, _, e, h2⟩ := r'.at_ (mem_valV h1)
      injection e with e1 e2
      obtain ⟨rfl, rfl⟩ := ky_inj e1
      injection e2 with e2
      rw [h2, e2]
    have keys : ∀ k, k ∈ kvs.map (·.1) → k ∈ ls.map (·.1) := fun k hk => by
      obtain ⟨p, hp, rfl⟩ := List.mem_map.mp hk
      exact List.mem_map.mpr ⟨_, mem_valV (of_decide_eq_true (ha p hp)), rfl⟩
    funext x y
    cases q : T x y with
    | some i => rw [sub x y i q]
    | none =>
      cases q' : T' x y with
      | none => rfl
      | some j =>
        have hm : ky x y ∈ ls.map (·.1) := List.mem_map.mpr ⟨_, r'.mem q', rfl⟩
        have hm2 := sub_back r.nd keys (by rw [List.length_map, List.length_map, hl]; exact Nat.le_refl _) hm
        obtain ⟨p, hp, e⟩ := List.mem_map.mp hm2
        obtain ⟨x', y', i', _, _, e', h2⟩ := r.at_ hp
        rw [e'] at e
        obtain ⟨rfl, rfl⟩ := ky_inj e
        rw [q] at h2; cases h2
  · rintro rfl
    have one : ∀ {a b : List (List Key × V)}, Rep N a T → Rep N b T → ∀ p ∈ a, valV b p.1 = some p.2 := fun {a b} ra rb p hp => by
      obtain ⟨x, y, i, _, _, rfl, h⟩ := ra.at_ hp
      show valV b (ky x y) = some (.int i)
      rw [rb.val, h]; rfl
    have sub : ∀ {a b : List (List Key × V)}, Rep N a T → Rep N b T → a.length ≤ b.length := fun {a b} ra rb => by
      have := List.Nodup.length_le_of_subset ra.nd (l₂ := b.map (·.1)) fun k hk => by
        obtain ⟨p, hp, rfl⟩ := List.mem_map.mp hk
        exact List.mem_map.mpr ⟨_, mem_valV (one ra rb p hp), rfl⟩
      simpa using this
    exact ⟨Nat.le_antisymm (sub r r') (sub r' r), fun p hp => decide_eq_true (one r r' p hp)⟩
theorem hits_of {X : Cx} {A : Around} {H : Hp} {s : Shared} {N : List Str} {ls : List (List Key × V)} {T' : Tb} {ys : List (List Key × Addr × Value)} (r' : Rep N ls T') (ry : KT H ls ys) :
    ∀ {kvs : List (List Key × V)} {xs : List (List Key × Addr × Value)}, KT H kvs xs → (∀ p ∈ kvs, ∃ i, p.2 = V.int i) → PySem.KRD.Hits A s ys xs (kvs.all fun p => decide (valV ls p.1 = some p.2))
  | _, _, .nil, _ => .nil
  | p :: kvs, x :: xs, .cons hx t, hi => by
    have ih := hits_of (X := X) (A := A) (s := s) r' ry t fun q hq => hi q (List.mem_cons_of_mem _ hq)
    obtain ⟨i, ei⟩ := hi p (List.mem_cons_self ..)
    obtain ⟨e1, e2, e3⟩ := hx
    rw [List.all_cons]
    obtain ⟨k, pa⟩ := x
    have e1 : p.1 = k := e1
    subst e1
    have rv := ry.val p.1
    cases q : valV ls p.1 with
    | none =>
      rw [q] at rv
      have hn : (atKey ys p.1) = none := by
        cases z : atKey ys p.1 with
        | none => rfl
        | some z' => rw [z] at rv; exact rv.elim
      rw [decide_eq_false (by intro z; cases z), Bool.false_and]
      exact .miss hn
    | some v =>
      obtain ⟨x', y', j, _, _, e, _⟩ := r'.at_ (mem_valV q)
      injection e with e4 e5
      subst e5
      rw [q] at rv
      obtain ⟨z, hz⟩ : ∃ z, atKey ys p.1 = some z := by
        cases z : atKey ys p.1 with
        | none => rw [z] at rv; exact rv.elim
        | some z' => exact ⟨z', rfl⟩
      rw [hz] at rv
      obtain ⟨tj, ej⟩ := (show RelV (.int j) z.2 from rv)
      rw [ei] at e3
      obtain ⟨ti, et⟩ := (show RelV (.int i) pa.2 from e3)
      have he : decide (some (V.int j) = some p.2) = (i == j) := by
        rw [ei]
        by_cases h : i = j
        · subst h; simp
        · have : ¬ j = i := fun z => h z.symm
          simp [h, this]
      rw [he]
      refine .hit hz ?_ ih
      rw [et, ej]
      exact SeqAt.EqAt.int_int i ti j tj
/-- == of two tables (or Nones) -/
def rEqT : R2 := fun x y H Q => ∃ N T T', TabAt H x N T ∧ TabAt H y N T' ∧ ∀ b : Bool, (b = true ↔ T = T') → Q (.bl b) H
theorem op_eqT {X : Cx} (hu : X.A.units + 1 < cLine) : OpR X (compareOp .Eq) rEqT := by
  intro pins s σ H x y v u Q I rx ry h
  obtain ⟨N, T, T', hx, hy, q⟩ := h
  cases T with
  | none =>
    obtain rfl : x = .non := hx
    cases T' with
    | none =>
      obtain rfl : y = .non := hy
      exact op_eq pins s σ H _ _ v u Q I rx ry ⟨rfl, q true (by simp)⟩
    | some T' =>
      obtain ⟨d, ls, rfl, hd, r⟩ := hy
      obtain rfl : v = Value.none := rx
      obtain rfl : u = Value.ref d := ry
      obtain ⟨_, _, _, _, dd⟩ := dt_of I.hok hd
      exact PySem.KRD.eq_none_dict dd.typeIs (Nat.lt_of_succ_lt hu) ⟨.bl false, H, I, rfl, q false (by simp)⟩
  | some T =>
    obtain ⟨d, kvs, rfl, hd, r⟩ := hx
    obtain rfl : v = Value.ref d := rx
    obtain ⟨z1, y1, xs, r1, dd⟩ := dt_of I.hok hd
    cases T' with
    | none =>
      obtain rfl : y = .non := hy
      obtain rfl : u = Value.none := ry
      exact PySem.KRD.eq_dict_none dd.typeIs (Nat.lt_of_succ_lt hu) ⟨.bl false, H, I, rfl, q false (by simp)⟩
    | some T' =>
      obtain ⟨d', ls, rfl, hd', r'⟩ := hy
      obtain rfl : u = Value.ref d' := ry
      obtain ⟨z2, y2, ys, r2, dd'⟩ := dt_of I.hok hd'
      have hk := hits_of (X := X) (A := X.A.in1) (s := s) r' r2 r1 fun p hp => by
        obtain ⟨_, _, i, _, _, e, _⟩ := r.at_ hp
        exact ⟨i, by rw [e]⟩
      have l1 : kvs.length = xs.length := Paired.length r1
      have l2 : ls.length = ys.length := Paired.length r2
      refine PySem.KRD.eq_dicts (knd := tupleKind (mixKind X.prog X.w)) (tupleKind_room_in1 hu) y1 y2 dd dd' (Nat.lt_of_succ_lt hu) (fun _ => hk) ?_
      refine ⟨.bl _, H, I, rfl, ?_⟩
      rw [← l1, ← l2]
      exact q (eqB kvs ls) ((eqB_iff r r').trans ⟨fun e => congrArg some e, Option.some.inj⟩)
end KD
set_option Elab.async false
set_option linter.all false
set_option maxRecDepth 100000
set_option maxHeartbeats 4000000
namespace GQ
open PySem PySem.SeqAt
open AutoSeq1 (wpAny_loadPart')
open MeetsSeq MeetsSeq2 MeetsSeq3 SeqRoads2
section
variable {prog : Program} {w : World} {A : Around} {R : Result → Shared → Prop}
theorem tuple_eqK (l b : Addr) (items items2 : Array Value) (n n2 : Nat) (dd dd2 : Option Addr) (sl sl2 : Array (Option Value)) (I : Nat → Shared → Prop)
    (turn : ∀ i (h1 : i < items.size) (h2 : i < items2.size) s, I i s → wpAny (model prog w) A.in1 (eqBool items[i] items2[i]) (fun r s' => if r = true then I (i + 1) s' else R (.ok (.ret (.bool false))) s') (fun e s' => R (.error e) s') s)
    (fin : ∀ s, I (min items.size items2.size) s → R (.ok (.ret (.bool (items.size == items2.size)))) s) {s : Shared} (hl1 : s.heap.get? l = some { cls := .type "tuple", dict := dd, data := .seq items n, slots := sl }) (hb1 : s.heap.get? b = some { cls := .type "tuple", dict := dd2, data := .seq items2 n2, slots := sl2 }) (h : I 0 s) :
    wpAny (model prog w) A.in1 (Builtin.«tuple.__eq__» ⟨[.ref l, .ref b], []⟩) (FinOf prog w A R) (fun e s' => R (.error e) s') s := by
  have f2 := AutoSeq1.sub_tuple_tuple
  have hZ : (items.toList.zip items2.toList).length = min items.size items2.size := by simp
  have h0 := h
  obtain ⟨hp, g, d, tk, os⟩ := s
  wp_walk using wpAny_loadPart' hl1, wpAny_loadPart' hb1, wpAny_forIn_list _ (fun rest b s' => b.1 = none ∧ ∃ i, rest = (items.toList.zip items2.toList).drop i ∧ i ≤ min items.size items2.size ∧ I i s') _
  case turn =>
    rintro ⟨y, x⟩ rest b s' ⟨hb', i, hz, hi, hI⟩
    have hlt : i < (items.toList.zip items2.toList).length := by
      rcases Nat.lt_or_ge i (items.toList.zip items2.toList).length with h' | h'
      · exact h'
      · rw [List.drop_of_length_le h'] at hz; cases hz
    have hm : i < min items.size items2.size := hZ ▸ hlt
    have h1 : i < items.size := Nat.lt_of_lt_of_le hm (Nat.min_le_left _ _)
    have h2 : i < items2.size := Nat.lt_of_lt_of_le hm (Nat.min_le_right _ _)
    rw [List.drop_eq_getElem_cons hlt] at hz
    injection hz with hyx hrest
    have hy : y = items[i] := by have := congrArg Prod.fst hyx; simpa using this
    have hx : x = items2[i] := by have := congrArg Prod.snd hyx; simpa using this
    subst hy hx
    refine wpAny_bind (wpAny_mono (turn i h1 h2 s' hI) (fun r s2 q2 => ?_) fun _ _ x => x)
    cases r with
    | true =>
      have q2 : I (i + 1) s2 := by simpa using q2
      wp_walk
      exact ⟨rfl, i + 1, hrest, hm, q2⟩
    | false =>
      have q2 : R (.ok (.ret (.bool false))) s2 := by simpa using q2
      obtain ⟨hp2, g2, d2, tk2, os2⟩ := s2
      wp_walk
      first | exact ⟨_, rfl, q2⟩ | exact q2
  case fin =>
    rintro ⟨b1, b2⟩ s' ⟨hb', i, hz, hi, hI⟩
    simp only at hb'
    subst hb'
    have hge : min items.size items2.size ≤ i := by
      rcases Nat.lt_or_ge i (items.toList.zip items2.toList).length with h' | h'
      · rw [List.drop_eq_getElem_cons h'] at hz; cases hz
      · exact hZ ▸ h'
    have hi' : i = min items.size items2.size := by omega
    have hR := fin s' (hi' ▸ hI)
    wp_walk
    first | exact ⟨_, rfl, by simpa [Builtin.Tuple.tupleCompareSizes] using hR⟩ | simpa [Builtin.Tuple.tupleCompareSizes] using hR
  case h =>
    exact ⟨rfl, 0, rfl, Nat.zero_le _, h0⟩
theorem tuple_neK (l b : Addr) (items items2 : Array Value) (n n2 : Nat) (dd dd2 : Option Addr) (sl sl2 : Array (Option Value)) (I : Nat → Shared → Prop)
    (turn : ∀ i (h1 : i < items.size) (h2 : i < items2.size) s, I i s → wpAny (model prog w) A.in1 (eqBool items[i] items2[i]) (fun r s' => if r = true then I (i + 1) s' else R (.ok (.ret (.bool true))) s') (fun e s' => R (.error e) s') s)
    (fin : ∀ s, I (min items.size items2.size) s → R (.ok (.ret (.bool (items.size != items2.size)))) s) {s : Shared} (hl1 : s.heap.get? l = some { cls := .type "tuple", dict := dd, data := .seq items n, slots := sl }) (hb1 : s.heap.get? b = some { cls := .type "tuple", dict := dd2, data := .seq items2 n2, slots := sl2 }) (h : I 0 s) :
    wpAny (model prog w) A.in1 (Builtin.«tuple.__ne__» ⟨[.ref l, .ref b], []⟩) (FinOf prog w A R) (fun e s' => R (.error e) s') s := by
  have f2 := AutoSeq1.sub_tuple_tuple
  have hZ : (items.toList.zip items2.toList).length = min items.size items2.size := by simp
  have h0 := h
  obtain ⟨hp, g, d, tk, os⟩ := s
  wp_walk using wpAny_loadPart' hl1, wpAny_loadPart' hb1, wpAny_forIn_list _ (fun rest b s' => b.1 = none ∧ ∃ i, rest = (items.toList.zip items2.toList).drop i ∧ i ≤ min items.size items2.size ∧ I i s') _
  case turn =>
    rintro ⟨y, x⟩ rest b s' ⟨hb', i, hz, hi, hI⟩
    have hlt : i < (items.toList.zip items2.toList).length := by
      rcases Nat.lt_or_ge i (items.toList.zip items2.toList).length with h' | h'
      · exact h'
      · rw [List.drop_of_length_le h'] at hz; cases hz
    have hm : i < min items.size items2.size := hZ ▸ hlt
    have h1 : i < items.size := Nat.lt_of_lt_of_le hm (Nat.min_le_left _ _)
    have h2 : i < items2.size := Nat.lt_of_lt_of_le hm (Nat.min_le_right _ _)
    rw [List.drop_eq_getElem_cons hlt] at hz
    injection hz with hyx hrest
    have hy : y = items[i] := by have := congrArg Prod.fst hyx; simpa using this
    have hx : x = items2[i] := by have := congrArg Prod.snd hyx; simpa using this
    subst hy hx
    refine wpAny_bind (wpAny_mono (turn i h1 h2 s' hI) (fun r s2 q2 => ?_) fun _ _ x => x)
    cases r with
    | true =>
      have q2 : I (i + 1) s2 := by simpa using q2
      wp_walk
      exact ⟨rfl, i + 1, hrest, hm, q2⟩
    | false =>
      have q2 : R (.ok (.ret (.bool true))) s2 := by simpa using q2
      obtain ⟨hp2, g2, d2, tk2, os2⟩ := s2
      wp_walk
      first | exact ⟨_, rfl, q2⟩ | exact q2
  case fin =>
    rintro ⟨b1, b2⟩ s' ⟨hb', i, hz, hi, hI⟩
    simp only at hb'
    subst hb'
    have hge : min items.size items2.size ≤ i := by
      rcases Nat.lt_or_ge i (items.toList.zip items2.toList).length with h' | h'
      · rw [List.drop_eq_getElem_cons h'] at hz; cases hz
      · exact hZ ▸ h'
    have hi' : i = min items.size items2.size := by omega
    have hR := fin s' (hi' ▸ hI)
    wp_walk
    first | exact ⟨_, rfl, by simpa [Builtin.Tuple.tupleCompareSizes] using hR⟩ | simpa [Builtin.Tuple.tupleCompareSizes] using hR
  case h =>
    exact ⟨rfl, 0, rfl, Nat.zero_le _, h0⟩
end
section
variable {prog : Program} {w : World} {A : Around} {E : Value → Shared → Prop} {s : Shared}
theorem rc_eqK {l b : Addr} {items items2 : Array Value} {Q : Value → Shared → Prop} (hu : A.units < cLine) (I : Nat → Shared → Prop) (hl : s.heap.IsTuple l items) (hb : s.heap.IsTuple b items2)
    (turn : ∀ i (h1 : i < items.size) (h2 : i < items2.size) s, I i s → wpAny (model prog w) A.in1 (eqBool items[i] items2[i]) (fun r s' => if r = true then I (i + 1) s' else Q (.bool false) s') E s)
    (fin : ∀ s, I (min items.size items2.size) s → Q (.bool (items.size == items2.size)) s) (h : I 0 s) : wpAny (model prog w) A (richCompare .Eq (.ref l) (.ref b)) Q E s := by
  obtain ⟨⟨cls, dd, data, sl⟩, ho, hc, n, hd⟩ := id hl
  obtain ⟨⟨cls2, dd2, data2, sl2⟩, ho2, hc2, n2, hd2⟩ := id hb
  simp only at hc hd hc2 hd2
  subst hc hd hc2 hd2
  refine wpAny_richCompare_same_room (op := .Eq) ⟨_, ho, rfl⟩ ⟨_, ho2, rfl⟩ F.slot_tuple_eq (call_here F.slot_tuple_eq ⟨_, ho, rfl⟩ F.entry_tuple_eq (F.args_tuple_eq_2 _ _) ?_) hu
  refine tuple_eqK (R := wants (fun v s' => v ≠ .notImplemented ∧ Q v s') E) l b items items2 n n2 dd dd2 sl sl2 I (fun i h1 h2 s' hI => wpAny_mono (turn i h1 h2 s' hI) (fun r s2 q => ?_) fun _ _ x => x) (fun s' q => ⟨(fun x => nomatch x), fin s' q⟩) ho ho2 h
  cases r with
  | true => simpa using q
  | false =>
    have q : Q (.bool false) s2 := by simpa using q
    simp only [Bool.false_eq_true, if_false]
    exact ⟨(fun x => nomatch x), q⟩
theorem rc_neK {l b : Addr} {items items2 : Array Value} {Q : Value → Shared → Prop} (hu : A.units < cLine) (I : Nat → Shared → Prop) (hl : s.heap.IsTuple l items) (hb : s.heap.IsTuple b items2)
    (turn : ∀ i (h1 : i < items.size) (h2 : i < items2.size) s, I i s → wpAny (model prog w) A.in1 (eqBool items[i] items2[i]) (fun r s' => if r = true then I (i + 1) s' else Q (.bool true) s') E s)
    (fin : ∀ s, I (min items.size items2.size) s → Q (.bool (items.size != items2.size)) s) (h : I 0 s) : wpAny (model prog w) A (richCompare .NotEq (.ref l) (.ref b)) Q E s := by
  obtain ⟨⟨cls, dd, data, sl⟩, ho, hc, n, hd⟩ := id hl
  obtain ⟨⟨cls2, dd2, data2, sl2⟩, ho2, hc2, n2, hd2⟩ := id hb
  simp only at hc hd hc2 hd2
  subst hc hd hc2 hd2
  refine wpAny_richCompare_same_room (op := .NotEq) ⟨_, ho, rfl⟩ ⟨_, ho2, rfl⟩ F.slot_tuple_ne (call_here F.slot_tuple_ne ⟨_, ho, rfl⟩ F.entry_tuple_ne (F.args_tuple_ne_2 _ _) ?_) hu
  refine tuple_neK (R := wants (fun v s' => v ≠ .notImplemented ∧ Q v s') E) l b items items2 n n2 dd dd2 sl sl2 I (fun i h1 h2 s' hI => wpAny_mono (turn i h1 h2 s' hI) (fun r s2 q => ?_) fun _ _ x => x) (fun s' q => ⟨(fun x => nomatch x), fin s' q⟩) ho ho2 h
  cases r with
  | true => simpa using q
  | false =>
    have q : Q (.bool true) s2 := by simpa using q
    simp only [Bool.false_eq_true, if_false]
    exact ⟨(fun x => nomatch x), q⟩
/-- the same object -/
theorem eqBool_same {a : Addr} {Q : Bool → Shared → Prop} (h : Q true s) : wpAny (model prog w) A (eqBool (.ref a) (.ref a)) Q E s := by
  unfold eqBool
  refine wpAny_holding ?_
  refine wpAny_ite_split (fun _ => wpAny_bind (wpAny_rule (wpAny_pure h))) (fun hab => absurd (beq_self_eq_true _) hab)
end
end GQ
set_option Elab.async false
set_option linter.all false
set_option maxRecDepth 100000
set_option maxHeartbeats 4000000
namespace KD
open PySem PySem.Spec PyProof.Rows L2 KR
def rKds (cK : Addr) (pos : Bool) : R2 := fun x y H Q => ∃ a b as bs, x = .ref a ∧ y = .ref b ∧ H a = some (.tup (as.map V.ref)) ∧ H b = some (.tup (bs.map V.ref)) ∧
  ((as = bs ∧ Q (.bl pos) H) ∨ ∃ a0 ar b0 br k l, as = a0 :: ar ∧ bs = b0 :: br ∧ KdAt cK H a0 k ∧ KdAt cK H b0 l ∧ GdName k.1 ∧ GdName l.1 ∧ k ≠ l ∧ ∀ H', Same H H' → Q (.bl (!pos)) H')
theorem vals_refs : ∀ {as : List Addr} {us : List Value}, Vals (as.map V.ref) us → us = as.map Value.ref
  | [], _, .nil => rfl
  | _ :: _, _, .cons h t => by rw [List.map_cons, ← vals_refs t, show _ = Value.ref _ from h]
section
variable {X : Cx} {CX : CXT} {n : Nat} {cK : Addr} {E : XK}
theorem first_ne {pins : List (Addr × Obj)} {σ : L2.St} {H : Hp} {s : Shared} {a b : Addr} {k l : Kn} {Q : Bool → Shared → Prop} (T : Kl X.K cK) (F : Md X.prog X.w X.K X.mg X.base CX n cK "__eq__" (spKEq cK)) (hr : Room (n + 1) X.A) (hx : Passes CX X E) (I : Inv X pins σ H s) (ha : KdAt cK H a k) (hb : KdAt cK H b l)
    (gk : GdName k.1) (gl : GdName l.1) (hne : k ≠ l) (h : ∀ H' s', Same H H' → Inv X pins σ H' s' → Q false s') : wpAny (model X.prog X.w) X.A.in1 (eqBool (.ref a) (.ref b)) Q X.xe s := by
  have ab : a ≠ b := fun e => hne (ha.uniq (e ▸ hb))
  obtain ⟨g, hm, hF⟩ := F
  obtain ⟨dx, ea⟩ := id ha
  obtain ⟨dy, eb⟩ := id hb
  obtain ⟨od, J⟩ := inst_at I ea
  obtain ⟨m, hfr⟩ := I.fr
  refine GQ.eqBool_refG ab ?_
  refine PySem.W.cmp_K (op := .Eq) (tb := .ref cK) hr.in1.units0 hfr I.ok.mod.kin J (looks_ty I (y := .ref b) rfl (T.ty eb)) (by unfold PySem.W.notFirst; simp) hm.at_ hm.fn ?_
  refine wpAny_mono (wpAny_call (SlX.run_at (us := [.ref a, .ref b]) (ws := [.ref a, .ref b]) hF hr.in1 I.env0.in1 hx I (.cons rfl (.cons rfl .nil)) (Q := fun v H' => v = .bl false ∧ Same H H')
    ⟨a, b, k, l, rfl, ha, hb, gk, gl, fun H' s' => ⟨congrArg V.bl (decide_eq_false hne), s'⟩⟩)) (fun w s' z => ?_) fun _ _ x => x
  obtain ⟨z', H', I', rz, ez, sz⟩ := z
  subst ez
  cases (show w = Value.bool false from rz)
  exact SlX.cmpback (z := V.bl false) rfl ⟨false, rfl, h H' s' sz I'⟩
theorem op_kdsEq (T : Kl X.K cK) (F : Md X.prog X.w X.K X.mg X.base CX n cK "__eq__" (spKEq cK)) (hr : Room (n + 1) X.A) (hx : Passes CX X E) : OpR X (compareOp .Eq) (rKds cK true) := by
  intro pins s σ H x y v u Q I rx ry h
  obtain ⟨a, b, as, bs, rfl, rfl, ha, hb, q⟩ := h
  obtain rfl : v = Value.ref a := rx
  obtain rfl : u = Value.ref b := ry
  obtain ⟨its, rv, p, hz⟩ := I.tuple (SqT.of ha)
  obtain ⟨its2, rv2, p2, hz2⟩ := I.tuple (SqT.of hb)
  obtain rfl := vals_refs rv
  obtain rfl := vals_refs rv2
  show wpAny _ _ (richCompare .Eq (.ref a) (.ref b)) _ _ s
  rcases q with ⟨rfl, q⟩ | ⟨a0, ar, b0, br, k, l, rfl, rfl, ka, kb, gk, gl, hne, q⟩
  · refine GQ.rc_eqK hr.units0 (fun i s' => s' = s) (show s.heap.IsTuple a _ from p) (show s.heap.IsTuple b _ from p2) (fun i h1 h2 s' e => ?_) (fun s' e => ?_) rfl
    · subst e
      simp only [List.getElem_toArray, List.getElem_map]
      exact GQ.eqBool_same (by simp)
    · subst e
      simp only [beq_self_eq_true]
      exact ⟨.bl true, H, I, rfl, q⟩
  · refine GQ.rc_eqK hr.units0 (fun i s' => i = 0 ∧ s' = s) (show s.heap.IsTuple a _ from p) (show s.heap.IsTuple b _ from p2) (fun i h1 h2 s' e => ?_) (fun s' e => ?_) ⟨rfl, rfl⟩
    · obtain ⟨rfl, rfl⟩ := e
      simp only [List.getElem_toArray, List.getElem_map, List.getElem_cons_zero]
      refine first_ne T F hr hx I ka kb gk gl hne fun H' s2 sH I2 => ?_
      simp only [Bool.false_eq_true, if_false]
      exact ⟨.bl false, H', I2, rfl, q H' sH⟩
    · obtain ⟨e, _⟩ := e
      simp at e
theorem op_kdsNe (T : Kl X.K cK) (F : Md X.prog X.w X.K X.mg X.base CX n cK "__eq__" (spKEq cK)) (hr : Room (n + 1) X.A) (hx : Passes CX X E) : OpR X (compareOp .NotEq) (rKds cK false) := by
  intro pins s σ H x y v u Q I rx ry h
  obtain ⟨a, b, as, bs, rfl, rfl, ha, hb, q⟩ := h
  obtain rfl : v = Value.ref a := rx
  obtain rfl : u = Value.ref b := ry
  obtain ⟨its, rv, p, hz⟩ := I.tuple (SqT.of ha)
  obtain ⟨its2, rv2, p2, hz2⟩ := I.tuple (SqT.of hb)
  obtain rfl := vals_refs rv
  obtain rfl := vals_refs rv2
  show wpAny _ _ (richCompare .NotEq (.ref a) (.ref b)) _ _ s
  rcases q with ⟨rfl, q⟩ | ⟨a0, ar, b0, br, k, l, rfl, rfl, ka, kb, gk, gl, hne, q⟩
  · refine GQ.rc_neK hr.units0 (fun i s' => s' = s) (show s.heap.IsTuple a _ from p) (show s.heap.IsTuple b _ from p2) (fun i h1 h2 s' e => ?_) (fun s' e => ?_) rfl
    · subst e
      simp only [List.getElem_toArray, List.getElem_map]
      exact GQ.eqBool_same (by simp)
    · subst e
      simp only [bne_self_eq_false]
      exact ⟨.bl false, H, I, rfl, q⟩
  · refine GQ.rc_neK hr.units0 (fun i s' => i = 0 ∧ s' = s) (show s.heap.IsTuple a _ from p) (show s.heap.IsTuple b _ from p2) (fun i h1 h2 s' e => ?_) (fun s' e => ?_) ⟨rfl, rfl⟩
    · obtain ⟨rfl, rfl⟩ := e
      simp only [List.getElem_toArray, List.getElem_map, List.getElem_cons_zero]
      refine first_ne T F hr hx I ka kb gk gl hne fun H' s2 sH I2 => ?_
      simp only [Bool.false_eq_true, if_false]
      exact ⟨.bl true, H', I2, rfl, q H' sH⟩
    · obtain ⟨e, _⟩ := e
      simp at e
end
end KD
set_option Elab.async false
set_option linter.all false
set_option maxRecDepth 100000
set_option maxHeartbeats 4000000
namespace KD
open PySem PySem.Spec PyProof.Rows L2 KT KR
/-- the first kinds differ -/
def Dif (ks ks' : List Kn) : Prop := ∃ k r l r', ks = k :: r ∧ ks' = l :: r' ∧ k ≠ l
/-- same kinds (the same objects), or others -/
def Two (kas kas' : List Addr) (ks ks' : List Kn) : Prop := (kas = kas' ∧ ks = ks') ∨ Dif ks ks'
/-- what NoScale(None) lets out -/
def NoSc (cN : Addr) (H : Hp) (E : XK) : Prop := ∀ d H', Same H H' → H' d = some (.xd [("scale", .non)]) → E (.ref cN) (some d) H'
structure NsOk (K : PySem.W.Frag) (mg : Str → Option Value) (cN : Addr) : Prop where
  gN : mg "NoScale" = some (.ref cN)
  ox : OexC K cN
  nSc : PySem.W.findIn K (.ref cN) "scale" = some none
section
variable {P : Program} {w : World} {K : PySem.W.Frag} {mg : Str → Option Value} {base : Heap} {f fI : Addr} {fd fdI : FuncData} {C : Kd} {cN : Addr}
def spNsI (cN : Addr) : Sp := fun vs H Q _ => ∃ a v, vs = [.ref a, v] ∧ H a = some (exo a cN none) ∧ ∀ dx, H dx = none → dx ≠ a → Q .non (upd (upd H dx (exd dx [("scale", v)])) a (exo a cN (some dx)))
theorem ok_nsinit (N : NsOk K mg cN) (F : FnDf K "__init__" "NoScale.__init__" s_NoScale_init f fd) : FnOk P w K mg base CX0 1 f fd p_NoScale_init (spNsI cN) := by
  refine F.ok sc_NoScale_init (fun vs H Q E h => ?_) (fun cdv A outer s H vs Q E hr h => ?_)
  · obtain ⟨a, v, rfl, _⟩ := h; rfl
  · obtain ⟨a, v, rfl, ha, q⟩ := h
    have n := sc_NoScale_init.nd
    exact ⟨_, PSs.nox (pss_one (ps_ost (pv 0) (pv 1))), _, rfl, _, rfl, a, cN, rfl, N.ox, N.nSc, .inl ⟨ha, q⟩⟩
/-- z.need_like(z') -/
def spLike (cK cZ cN : Addr) : Sp := fun vs H Q E => ∃ z z' kas kas' ks ks' told told' T T', vs = [.ref z, .ref z'] ∧ ZoneAt cK cZ H z kas ks told T ∧ ZoneAt cK cZ H z' kas' ks' told' T' ∧ KsOk ks ∧ KsOk ks' ∧
  ((kas = kas' ∧ Q .non H) ∨ (Dif ks ks' ∧ NoSc cN H E))
theorem heads {cK : Addr} {H : Hp} {as : List Addr} {k : Kn} {r : List Kn} (h : KdsAt cK H as (k :: r)) : ∃ a t, as = a :: t ∧ KdAt cK H a k := by
  cases h with
  | cons h t => exact ⟨_, _, rfl, h⟩
theorem ok_need_like (B : Blt mg) (T0 : KdOk K mg C) (Z : ZnOk K C.zone) (N : NsOk K mg cN) (M : Md P w K mg base CX0 2 C.kind "__eq__" (spKEq C.kind)) (iN : PySem.W.findIn K (.ref cN) "__init__" = some (some (.ref fI))) (tI : PySem.W.typeIn K (.ref fI) = some (.type "function"))
    (FI : FnOk P w K mg base CX0 1 fI fdI p_NoScale_init (spNsI cN)) (hb : Binds K fdI p_NoScale_init []) (F : FnDf K "need_like" "Zone.need_like" s_Zone_need_like f fd) :
    FnOk P w K mg base (L2.CX P w) 4 f fd p_Zone_need_like (spLike C.kind C.zone cN) := by
  refine F.ok sc_Zone_need_like (fun vs H Q E h => ?_) (fun cdv A outer s H vs Q E hr h => ?_)
  · obtain ⟨z, z', kas, kas', ks, ks', told, told', T, T', rfl, _⟩ := h; rfl
  · obtain ⟨z, z', kas, kas', ks, ks', told, told', T, T', rfl, hz, hz', ok, ok', q⟩ := h
    have hu := hu_of hr
    have n := sc_Zone_need_like.nd
    refine ⟨_, pss_one (ps_if (pt_cmpR (op_kdsNe (E := E) T0.kind M (hr.mono (by decide)) C8.pass0) (pe_fld (pv 0) rfl) (pe_fld (pv 1) rfl) (nomark _))
        (pss_one (ps_raise rfl (L2.takes_of (X := cxOf (L2.CX P w) P w K mg base n_Zone_need_like "Zone.need_like" (defScope s_Zone_need_like) f cdv A outer s H E) rfl rfl rfl rfl) (pmk_oex N.ox iN tI FI (hr.mono (by decide)) hb .nil pass0 (by rfl) N.gN (pa_cons pe_non pa_nil))))
        pss_nil), ?_⟩
    obtain ⟨dx, kt, st, nt, tt, tv, bas, h1, h2, h3, _⟩ := hz
    obtain ⟨dx', kt', st', nt', tt', tv', bas', h1', h2', h3', _⟩ := hz'
    refine ⟨_, rfl, z, _, dx, _, _, rfl, h1, Z.cl, Z.nKinds, rfl, _, rfl, z', _, dx', _, _, rfl, h1', Z.cl, Z.nKinds, rfl, ?_⟩
    refine ⟨kt, kt', kas, kas', rfl, rfl, h2, h2', ?_⟩
    rcases q with ⟨rfl, q⟩ | ⟨⟨k, r, l, r', rfl, rfl, hne⟩, q⟩
    · exact .inl ⟨rfl, false, rfl, iff0 rfl q⟩
    · obtain ⟨a0, ar, rfl, ka⟩ := heads h3
      obtain ⟨b0, br, rfl, kb⟩ := heads h3'
      refine .inr ⟨a0, ar, b0, br, k, l, rfl, rfl, ka, kb, ok.nm k (List.mem_cons_self ..), ok'.nm l (List.mem_cons_self ..), hne, fun H1 s1 => ⟨true, rfl, ift rfl ?_⟩⟩
      refine ⟨by simp, fun a ha => ⟨a, .non, rfl, upd_same, fun dx2 hdx hda => ⟨rfl, dx2, [("scale", .non)], upd_same, ?_, ?_, ?_⟩⟩⟩
      · rw [upd_ne hda, upd_same]
      · rw [upd_ne hda] at hdx; exact hdx
      · rw [upd_ne hda] at hdx
        refine q dx2 _ (s1.trans fun b o hb => ?_) upd_same
        have b1 : b ≠ a := ne_of_none hb ha
        have b2 : b ≠ dx2 := ne_of_none hb hdx
        rw [upd_ne b2, del_ne b1, upd_ne b1, upd_ne b2, upd_ne b1]
        exact hb
/-- z & z' -/
def spAnd (cK cZ cN : Addr) : Sp := fun vs H Q E => ∃ z z' kas kas' ks ks' told told' T T', vs = [.ref z, .ref z'] ∧ ZoneAt cK cZ H z kas ks told T ∧ ZoneAt cK cZ H z' kas' ks' told' T' ∧ ZOk ks told T ∧ ZOk ks' told' T' ∧ told.length + told'.length ≤ 1000 ∧
  ((kas = kas' ∧ ks = ks' ∧ ∀ z2 H', Same H H' → ZoneAt cK cZ H' z2 kas ks (told ++ told') (KM.tights (nms ks) T told') → Q (.ref z2) H') ∨ (Dif ks ks' ∧ NoSc cN H E))
theorem ok_and (Z : ZnOk K C.zone) (M1 : Md P w K mg base (L2.CX P w) 4 C.zone "need_like" (spLike C.kind C.zone cN)) (M2 : ∃ g, BMeth K C.zone "bounded" g ∧ FnR P w K mg base CX0 5 g (spBd C.kind C.zone)) (F : FnDf K "__and__" "Zone.__and__" s_Zone_and f fd) :
    FnOk P w K mg base (L2.CX P w) 6 f fd p_Zone_and (spAnd C.kind C.zone cN) := by
  refine F.ok sc_Zone_and (fun vs H Q E h => ?_) (fun cdv A outer s H vs Q E hr h => ?_)
  · obtain ⟨z, z', kas, kas', ks, ks', told, told', T, T', rfl, _⟩ := h; rfl
  · obtain ⟨z, z', kas, kas', ks, ks', told, told', T, T', rfl, hz, hz', ok, ok', len, q⟩ := h
    have hu := hu_of hr
    have n := sc_Zone_and.nd
    obtain ⟨g, bm, FB⟩ := M2
    have tk := L2.takes_of (X := cxOf (L2.CX P w) P w K mg base n_Zone_and "Zone.__and__" (defScope s_Zone_and) f cdv A outer s H E) rfl rfl rfl rfl
    refine ⟨_, pss_cons (ps_expr (pe_m (E := E) (pv 0) Z.cl M1 (hr.mono (by decide)) (L2.passes_call tk fun _ _ _ _ h => h) (pa_cons (pv 1) pa_nil)))
      (pss_one (ps_ret (pe_methS (E := E) (pv 0) Z.cl bm FB (hr.mono (by decide)) C8.pass0 (pe_fld (pv 1) rfl)))), ?_⟩
    obtain ⟨dx, kt, st, nt, tt, tv, bas, h1, hrest⟩ := id hz
    obtain ⟨dx', kt', st', nt', tt', tv', bas', h1', h2', h3', h4', h5', h6', h7', h8'⟩ := id hz'
    refine ⟨_, rfl, z, dx, _, rfl, h1, rfl, _, rfl, z, z', kas, kas', ks, ks', told, told', T, T', rfl, hz, hz', ok.kk, ok'.kk, ?_⟩
    rcases q with ⟨rfl, rfl, q⟩ | ⟨d, q⟩
    · refine .inl ⟨rfl, ?_⟩
      refine ⟨_, rfl, z, dx, _, rfl, h1, rfl, fun qa hqa => ?_⟩
      have s1 := same_new (o := .met g z) hqa
      refine ⟨_, rfl, z', _, dx', _, _, rfl, s1 _ _ h1', Z.cl, Z.nTold, rfl, tt', _, rfl, SqT.of (s1 _ _ h6'), upd_same, ?_⟩
      exact ⟨z, bas', told', kas, ks, told, T, rfl, h7'.mono s1, hz.mono s1, ok, ok'.inn, len, fun z2 H' s2 hz2 => q z2 H' (s1.trans s2) hz2⟩
    · exact .inr ⟨d, q⟩

/-- z <= z' -/
def spLe (cK cZ cN : Addr) : Sp := fun vs H Q E => ∃ z z' kas kas' ks ks' told told' T T', vs = [.ref z, .ref z'] ∧ ZoneAt cK cZ H z kas ks told T ∧ ZoneAt cK cZ H z' kas' ks' told' T' ∧ ZOk ks told T ∧ ZOk ks' told' T' ∧
  ((kas = kas' ∧ ks = ks' ∧ ∀ H' (b : Bool), Same H H' → (b = true ↔ KM.leT T T') → Q (.bl b) H') ∨ (Dif ks ks' ∧ NoSc cN H E))
def Good (T : Tb) (p : List Key × V) : Prop := ∀ x y w, p = (ky x y, V.int w) → ∃ t, T x y = some t ∧ t ≤ w
theorem good_all {N : List Str} {kvs : List (List Key × V)} {T T' : Tb} (r : Rep N kvs T') : (∀ p ∈ kvs, Good T p) ↔ KM.leT (some T) (some T') := by
  constructor
  · intro h x y w e
    exact h _ (r.mem e) x y w rfl
  · intro h p hp x y w e
    obtain ⟨x', y', i, _, _, e', h2⟩ := r.at_ hp
    rw [e] at e'
    injection e' with e1 e2
    obtain ⟨rfl, rfl⟩ := ky_inj e1
    injection e2 with e2
    subst e2
    exact h x y w h2
theorem ok_le (B : Blt mg) (Z : ZnOk K C.zone) (M1 : Md P w K mg base (L2.CX P w) 4 C.zone "need_like" (spLike C.kind C.zone cN)) (F : FnDf K "__le__" "Zone.__le__" s_Zone_le f fd) :
    FnOk P w K mg base (L2.CX P w) 5 f fd p_Zone_le (spLe C.kind C.zone cN) := by
  refine F.ok sc_Zone_le (fun vs H Q E h => ?_) (fun cdv A outer s H vs Q E hr h => ?_)
  · obtain ⟨z, z', kas, kas', ks, ks', told, told', T, T', rfl, _⟩ := h; rfl
  · obtain ⟨z, z', kas, kas', ks, ks', told, told', T, T', rfl, hz, hz', ok, ok', q⟩ := h
    have hu := hu_of hr
    have n := sc_Zone_le.nd
    have tk := L2.takes_of (X := cxOf (L2.CX P w) P w K mg base n_Zone_le "Zone.__le__" (defScope s_Zone_le) f cdv A outer s H E) rfl rfl rfl rfl
    refine ⟨_, pss_cons (ps_expr (pe_m (E := E) (pv 0) Z.cl M1 (hr.mono (by decide)) (L2.passes_call tk fun _ _ _ _ h => h) (pa_cons (pv 1) pa_nil)))
      (pss_ct (ps_if (PW.pt (pw_or (pt_cmp (pc_isN (pe_fld (pv 0) rfl)) rfl) (pw_or1 (pt_cmp (pc_isN (pe_fld (pv 1) rfl)) rfl))))
        (pss_one (ps_ret (pe_cmp (pc_isN (pe_fld (pv 0) rfl)) rfl)))
        pss_nil)
      (pss_one (ps_ret (pe_callB (cr_all rfl) (by rfl) B.all (by decide +kernel) (pa_cons (pe_lock (pe_lc (own := [("pair", 2)]) (g := gName 2) rfl n (pi_keys (pe_fld (pv 1) rfl)) (blkOk_by (N := n_Zone_le) (sc := defScope s_Zone_le) (by decide +kernel)) (fun _ _ _ _ _ => (pg_name (i := 2) n rfl (.inl rfl))) (fun _ _ _ _ _ => pts_nil)
        (fun _ _ _ _ _ => (pe_and (pe_cmp (pc_din hu (pv 2) (pe_fldK (K := K) rfl (pv 0) rfl)) (by rfl)) (pe_one (pe_cmpR op_le (pe_dget hu (pe_fldK (K := K) rfl (pv 0) rfl) (pv 2) (fun _ _ => rfl)) (pe_dget hu (pe_fldK (K := K) rfl (pv 1) rfl) (pv 2) (fun _ _ => rfl)) (nomark _))))))) pa_nil))))), ?_⟩
    obtain ⟨dx, kt, st, nt, tt, tv, bas, h1, h2, h3, h4, h5, h6, h7, h8⟩ := id hz
    obtain ⟨dx', kt', st', nt', tt', tv', bas', h1', h2', h3', h4', h5', h6', h7', h8'⟩ := id hz'
    refine ⟨_, rfl, z, dx, _, rfl, h1, rfl, _, rfl, z, z', kas, kas', ks, ks', told, told', T, T', rfl, hz, hz', ok.kk, ok'.kk, ?_⟩
    refine q.elim (fun q0 => ?_) (fun ⟨d, q⟩ => .inr ⟨d, q⟩)
    clear q
    obtain ⟨rfl, rfl, q⟩ := q0
    refine .inl ⟨rfl, ?_⟩
    cases T with
    | none =>
      obtain rfl : tv = .non := h8
      refine ⟨fun _ _ => False, ⟨_, rfl, z, _, dx, _, _, rfl, h1, Z.cl, Z.nTable, rfl, _, rfl, ift rfl (ift rfl ⟨_, rfl, z, _, dx, _, _, rfl, h1, Z.cl, Z.nTable, rfl, q _ true (Same.refl _) ?_⟩)⟩, fun _ _ z => z.elim⟩
      cases T' <;> simp [KM.leT]
    | some T =>
    obtain ⟨d1, kvs1, rfl, hd1, R1⟩ := h8
    cases T' with
    | none =>
      obtain rfl : tv' = .non := h8'
      refine ⟨fun _ _ => False, ⟨_, rfl, z, _, dx, _, _, rfl, h1, Z.cl, Z.nTable, rfl, _, rfl, iff0 rfl ⟨_, rfl, z', _, dx', _, _, rfl, h1', Z.cl, Z.nTable, rfl, _, rfl, ift rfl ⟨_, rfl, z, _, dx, _, _, rfl, h1, Z.cl, Z.nTable, rfl, q _ false (Same.refl _) ?_⟩⟩⟩, fun _ _ z => z.elim⟩
      simp [KM.leT]
    | some T' =>
    obtain ⟨d2, kvs2, rfl, hd2, R2⟩ := h8'
    refine ⟨fun σ' H' => σ' = [some (.ref z), some (.ref z'), none] ∧ H' = H, ⟨_, rfl, z, _, dx, _, _, rfl, h1, Z.cl, Z.nTable, rfl, _, rfl, iff0 rfl ⟨_, rfl, z', _, dx', _, _, rfl, h1', Z.cl, Z.nTable, rfl, _, rfl, iff0 rfl ⟨rfl, rfl⟩⟩⟩, ?_⟩
    rintro σ1 H1 ⟨rfl, rfl⟩
    refine ⟨d2, _, hd2, True.intro, fun od => ?_⟩
    -- the dict is locked
    have lk : ∀ b o, H1 b = some o → (∀ kvs, o ≠ .dT kvs) → upd H1 d2 (.frz od (.dT kvs2)) b = some o := fun b o hb hne => by
      rw [upd_ne (fun e => by rw [e, hd2] at hb; cases hb; exact hne _ rfl)]; exact hb
    have e1 := lk _ _ h1 (fun _ z => by cases z)
    have e1' := lk _ _ h1' (fun _ z => by cases z)
    have rd1 : Rd (upd H1 d2 (.frz od (.dT kvs2))) d1 (.dT kvs1) := by
      by_cases e : d1 = d2
      · subst e
        rw [hd1] at hd2; cases hd2
        exact .inr ⟨od, upd_same⟩
      · exact .inl (by rw [upd_ne e]; exact hd1)
    have rd2 : upd H1 d2 (.frz od (.dT kvs2)) d2 = some (.frz od (.dT kvs2)) := upd_same
    have back : ∀ H', Same (upd H1 d2 (.frz od (.dT kvs2))) H' → Same H1 (upd H' d2 (.dT kvs2)) := fun H' s b o hb => by
      by_cases e : b = d2
      · subst e; rw [hd2] at hb; rw [upd_same]; exact hb
      · rw [upd_ne e]
        exact s b o (by rw [upd_ne e]; exact hb)
    generalize upd H1 d2 (.frz od (.dT kvs2)) = H2 at e1 e1' rd1 rd2 back
    have rdm : ∀ {H' : Hp}, Same H2 H' → Rd H' d1 (.dT kvs1) := fun s => rd1.elim (fun e => .inl (s _ _ e)) fun ⟨o, e⟩ => .inr ⟨o, s _ _ e⟩
    have len2 : kvs2.length ≤ 49 := R2.len ok.l7
    refine ⟨_, rfl, z', _, dx', _, _, rfl, e1', Z.cl, Z.nTable, rfl, d2, od, rfl, .inr ⟨kvs2, rd2, fun D hD => ?_⟩⟩
    refine lp_it (walk_keysT (kvs := kvs2)) (fun m H' => Same H2 H' ∧ ∃ bs : List Bool, H' D = some (.lst (bs.map V.bl)) ∧ bs.length = m ∧ ((bs.all id = true) ↔ ∀ p ∈ kvs2.take m, Good T p))
      ⟨same_new hD, [], upd_same, rfl, by simp⟩ (fun m H' _ h => h.1 _ _ rd2) ?_ ?_
    · rintro m x0 H3 H4 hm ⟨s3, bs, h3D, hl, hb⟩ ⟨rfl, k, v, qa, hk, rfl, hq⟩
      obtain ⟨x, y, wt, hx, hy, e, hT'⟩ := R2.at_ (mem_get hk)
      injection e with ek ev
      subst ek ev
      refine ⟨rfl, u_yes ?_⟩
      have fin : ∀ c : Bool, (c = true ↔ Good T (ky x y, V.int wt)) → ∃ acc, H4 D = some (.lst acc) ∧ acc.length < sizeLine ∧ (Same H2 (upd H4 D (.lst (acc ++ [V.bl c]))) ∧ ∃ bs : List Bool, upd H4 D (.lst (acc ++ [V.bl c])) D = some (.lst (bs.map V.bl)) ∧ bs.length = m + 1 ∧ ((bs.all id = true) ↔ ∀ p ∈ kvs2.take (m + 1), Good T p)) := fun c hc => by
        refine ⟨_, h3D, by rw [List.length_map, sizeLine_eq]; omega, same_mut s3 hD, bs ++ [c], by rw [upd_same, List.map_append]; rfl, by simp [hl], ?_⟩
        rw [List.all_append, Bool.and_eq_true, hb, take_get hk]
        simp only [List.all_cons, List.all_nil, Bool.and_true, id, hc, List.mem_append, List.mem_singleton]
        constructor
        · rintro ⟨h1, h2⟩ p (hp | rfl)
          · exact h1 p hp
          · exact h2
        · intro h
          exact ⟨fun p hp => h p (.inl hp), h _ (.inr rfl)⟩
      have g1 : DGet H4 d1 (.ref qa) (valV kvs1 (ky x y)) := .inr ⟨kvs1, ky x y, qa, rdm s3, rfl, hq, rfl⟩
      have g2 : DGet H4 d2 (.ref qa) (some (.int wt)) := .inr ⟨kvs2, ky x y, qa, .inr ⟨od, s3 _ _ rd2⟩, rfl, hq, by rw [R2.val, hT']; rfl⟩
      refine ift rfl ⟨_, rfl, _, rfl, z, _, dx, _, _, rfl, s3 _ _ e1, Z.cl, Z.nTable, rfl, d1, _, rfl, g1, _, rfl, ?_⟩
      rw [R1.val]
      cases hT : T x y with
      | none =>
        refine iff0 rfl (fin false ⟨fun z => (by cases z), fun g => ?_⟩)
        obtain ⟨t, e, _⟩ := g x y wt rfl
        rw [hT] at e; cases e
      | some t =>
        rw [R1.val, hT] at g1
        refine ift rfl ⟨_, rfl, z, _, dx, _, _, rfl, s3 _ _ e1, Z.cl, Z.nTable, rfl, _, rfl, d1, _, rfl, g1, _, rfl, z', _, dx', _, _, rfl, s3 _ _ e1', Z.cl, Z.nTable, rfl, _, rfl, d2, _, rfl, g2, _, _, rfl, rfl, ?_⟩
        refine fin (decide (t ≤ wt)) ⟨fun z x' y' w' e => ?_, fun g => ?_⟩
        · injection e with e1 e2
          obtain ⟨rfl, rfl⟩ := ky_inj e1
          injection e2 with e2
          subst e2
          exact ⟨t, hT, of_decide_eq_true z⟩
        · obtain ⟨t', e, l⟩ := g x y wt rfl
          rw [hT] at e; cases e
          exact decide_eq_true l
    · rintro H3 ⟨s3, bs, h3D, hl, hb⟩
      refine ⟨s3 _ _ rd2, ?_⟩
      rw [List.take_length] at hb
      have sB := back _ s3
      have Dn : D ≠ d2 := fun e => by rw [e, s3 _ _ rd2] at h3D; cases h3D
      refine ⟨D, bs, rfl, SqL.of (by rw [upd_ne Dn]; exact h3D), q _ _ sB ?_⟩
      rw [hb]
      exact good_all R2
/-- z == y: a zone, or something that is none -/
def spZeq (cK cZ : Addr) : Sp := fun vs H Q _ => ∃ z kas ks told T y, vs = [.ref z, y] ∧ ZoneAt cK cZ H z kas ks told T ∧ ZOk ks told T ∧
  ((∃ z' kas' ks' told' T', y = .ref z' ∧ ZoneAt cK cZ H z' kas' ks' told' T' ∧ ZOk ks' told' T' ∧ ((kas = kas' ∧ ks = ks' ∧ ∀ H' (b : Bool), Same H H' → (b = true ↔ T = T') → Q (.bl b) H') ∨ (Dif ks ks' ∧ ∀ H', Same H H' → Q (.bl false) H'))) ∨
   ((y = .non ∨ (∃ x, y = .str x) ∨ ∃ a xs, y = .ref a ∧ H a = some (.tup xs)) ∧ Q (.bl false) H))
theorem ok_zeq (B : Blt mg) (T0 : KdOk K mg C) (Z : ZnOk K C.zone) (Y : ZgOk K mg C) (M : Md P w K mg base CX0 2 C.kind "__eq__" (spKEq C.kind)) (F : FnDf K "__eq__" "Zone.__eq__" s_Zone_eq f fd) :
    FnOk P w K mg base CX0 4 f fd p_Zone_eq (spZeq C.kind C.zone) := by
  refine F.ok sc_Zone_eq (fun vs H Q E h => ?_) (fun cdv A outer s H vs Q E hr h => ?_)
  · obtain ⟨z, kas, ks, told, T, y, rfl, _⟩ := h; rfl
  · obtain ⟨z, kas, ks, told, T, y, rfl, hz, ok, q⟩ := h
    have hu := hu_of hr
    have n := sc_Zone_eq.nd
    refine ⟨_, PSs.nox (pss_one (ps_ret (pe_and (pe_callB call_isi (by rfl) B.isinstance (by decide +kernel) (pa_cons (pv 1) (pa_cons (C8.pe_gc (by rfl) (gref Y.gZone)) pa_nil))) (pe_and (pe_cmpR (op_kdsEq (E := E0) T0.kind M (hr.mono (by decide)) pass0) (pe_fld (pv 0) rfl) (pe_fld (pv 1) rfl) (nomark _)) (pe_one (pe_cmpR (op_eqT hu) (pe_fld (pv 0) rfl) (pe_fld (pv 1) rfl) (nomark _))))))), ?_⟩
    obtain ⟨dx, kt, st, nt, tt, tv, bas, h1, h2, h3, h4, h5, h6, h7, h8⟩ := id hz
    rcases q with ⟨z', kas', ks', told', T', rfl, hz', ok', q⟩ | ⟨hy, q⟩
    · obtain ⟨dx', kt', st', nt', tt', tv', bas', h1', h2', h3', h4', h5', h6', h7', h8'⟩ := id hz'
      refine ⟨_, rfl, ⟨_, _, _, _, true, rfl, .own C.zone, Y.kl.ty h1', Y.isZZ, true, rfl, ift rfl ?_⟩⟩
      refine ⟨_, rfl, z, _, dx, _, _, rfl, h1, Z.cl, Z.nKinds, rfl, _, rfl, z', _, dx', _, _, rfl, h1', Z.cl, Z.nKinds, rfl, kt, kt', kas, kas', rfl, rfl, h2, h2', ?_⟩
      rcases q with ⟨rfl, rfl, q⟩ | ⟨⟨k, r, l, r', rfl, rfl, hne⟩, q⟩
      · refine .inl ⟨rfl, true, rfl, ift rfl ⟨_, rfl, z, _, dx, _, _, rfl, h1, Z.cl, Z.nTable, rfl, _, rfl, z', _, dx', _, _, rfl, h1', Z.cl, Z.nTable, rfl, nms ks, T, T', h8, h8', fun b hb => q _ b (Same.refl _) hb⟩⟩
      · obtain ⟨a0, ar, rfl, ka⟩ := heads h3
        obtain ⟨b0, br, rfl, kb⟩ := heads h3'
        exact .inr ⟨a0, ar, b0, br, k, l, rfl, rfl, ka, kb, ok.kk.nm k (List.mem_cons_self ..), ok'.kk.nm l (List.mem_cons_self ..), hne, fun H1 s1 => ⟨false, rfl, iff0 rfl (q _ s1)⟩⟩
    · rcases hy with rfl | ⟨x, rfl⟩ | ⟨a, xs, rfl, ha⟩
      · exact ⟨_, rfl, ⟨_, _, _, _, false, rfl, .own C.zone, .base .non, Y.isNZ, false, rfl, iff0 rfl q⟩⟩
      · exact ⟨_, rfl, ⟨_, _, _, _, false, rfl, .own C.zone, .base (.str x), Y.isSZ, false, rfl, iff0 rfl q⟩⟩
      · exact ⟨_, rfl, ⟨_, _, _, _, false, rfl, .own C.zone, .base (.tup ha), Y.isTZ, false, rfl, iff0 rfl q⟩⟩
end
end KD
set_option Elab.async false
set_option linter.all false
set_option maxRecDepth 100000
set_option maxHeartbeats 4000000
namespace KR
open PySem PySem.Spec PyProof.Rows L2 NdefX PySem.W
structure PSsA (X : Cx) (c : Code) (sts : List Stmt) (t : TS) : Prop where
  run : ∀ (pins : List (Addr × Obj)) (s : Shared) (σ : L2.St) (H : Hp) (D : Ends), Inv X pins σ H s → t D σ H → _root_.PySem.wpAt (model X.prog X.w) X.A c (execs sts X.env) (SP X pins D) X.xe s
structure PSA (X : Cx) (c : Code) (st : Stmt) (t : TS) : Prop where
  run : ∀ (pins : List (Addr × Obj)) (s : Shared) (σ : L2.St) (H : Hp) (D : Ends), Inv X pins σ H s → t D σ H → _root_.PySem.wpAt (model X.prog X.w) X.A c (exec st X.env) (SP X pins D) X.xe s
section
variable {X : Cx} {c : Code} {st : Stmt} {rest : List Stmt} {t u : TS}
theorem psa_of (h : PS X st t) : PSA X c st t := ⟨fun pins s σ H D I q => _root_.PySem.wpAt_of_wpAny (h.run pins s σ H D I q)⟩
theorem pssa_of (h : PSs X rest t) : PSsA X c rest t := ⟨fun pins s σ H D I q => _root_.PySem.wpAt_of_wpAny (h.run pins s σ H D I q)⟩
theorem pssa_ct (h1 : PSA X c st t) (h2 : PSsA X c rest u) : PSsA X c (st :: rest) (tCt t u) := by
  refine ⟨fun pins s σ H D I h => ?_⟩
  obtain ⟨Mid, ht, hu⟩ := h
  refine ks_wpAt_execs_cons (ks_wpAt_mono (h1.run pins s σ H { D with nx := Mid } I ht) (fun f s1 q => ?_) fun _ _ x => x)
  cases f with
  | next =>
    obtain ⟨σ1, H1, I1, m⟩ := q
    exact h2.run pins s1 σ1 H1 D I1 (hu σ1 H1 m)
  | ret v => exact q
  | brk => exact q
  | cont => exact q
end
/-- what is known of a def that says super() -/
structure SupK (K : Frag) (mg : Str → Option Value) (P : Program) (qual : Str) (F : NF) (f cc D f2 : Addr) (name : Str) : Prop where
  lk : ∃ oc od osl dV kV doc pm an ct, K.lookup f = some ⟨oc, od, .func (fnX F.name F.qual F.params F.body F.scope F.cl dV kV doc pm an (.ref F.c) ct), osl⟩
  cl : F.cl = [(("__class__" : Str), cc)]
  cell : ∃ cl cld csl, K.lookup cc = some ⟨cl, cld, .cell (some (.ref D)), csl⟩
  code : ∃ ccl cdd vs ccs tf, K.lookup F.c = some ⟨ccl, cdd, .fields vs, ccs⟩ ∧ vs[2]? = some (.str P.main.file tf)
  cd : codeIn K (.ref F.c) F.qual = true
  clsD : ∃ cdD, clsIn K D = some cdD
  any : nsIn K cStatics "thirdparty.any" = some none
  sup : mg "super" = none
  top : (P.main.scope.names.lookup ("super" : Str)).isSome = false
  sub : mroIn K D (.ref D) = some true
  at_ : ks_superIn K D D name = some (some (.ref f2))
  ty : typeIn K (.ref f2) = some (.type "function")
  fi : fnIn K f2 = true
section
variable {CX : CXT} {P : Program} {w : World} {K : PySem.W.Frag} {mg : Str → Option Value} {base : Heap} {N ps fr : List Str} {F : NF} {f cc D f2 : Addr} {k : Nat} {name : Str} {A : Around} {outer : List Env} {s0 : Shared} {H0 : Hp} {E E1 : XK} {sp : Sp}
  {e : Expr} {es : List Expr} {ta : TA} {p0 p1 apos pos pos2 : Pos}
/-- the reading: super().name(e, ..) as a statement; slot 0 holds the instance -/
def tSup (D : Addr) (sp : Sp) (E : XK) (t : TA) : TS := fun Dn σ H => ∃ x dx fs, σ[0]? = some (some (.ref x)) ∧ H x = some (.ins D dx fs) ∧ t σ H fun vs H1 => sp (.ref x :: vs) H1 (fun _ H2 => Dn.nx σ H2) E
theorem ps_super (S : SupK K mg P F.qual F f cc D f2 name) (F2 : FnR P w K mg base CX k f2 sp) (hr : Room k (A.deeper (envF F f s0.heap.objs.size))) (hx : Passes CX (ncx CX P w K mg base N F f A outer s0 H0 E) E1)
    (hN : N[0]? = some ("self" : Str)) (hloc : F.scope.names.lookup ("self" : Str) = some .local) (hks : F.scope.names.lookup ("super" : Str) = some .globalImplicit) (hkc : F.scope.names.lookup ("__class__" : Str) = some .free) (hk : F.scope.kind = .function)
    (hp : ∃ ar : Arg, (F.params.posonlyargs ++ F.params.args).head? = some ar ∧ ar.arg = ("self" : Str)) (hat : (name == ("__class__" : Str)) = false) (ha : PA (ncx CX P w K mg base N F f A outer s0 H0 E) (e :: es) ta)
    (hi : interactive (envF F f s0.heap.objs.size) = false) (hs : swapsWith (.Call (.Attribute (.Call (.Name "super" p0) [] [] p1) name apos) (e :: es) [] pos) none pos2.line (envF F f s0.heap.objs.size) = pure false) {pl : Sem Bool}
    (hst : starEach (e :: es) (envF F f s0.heap.objs.size) = (false, eval e (envF F f s0.heap.objs.size)) :: starEach es (envF F f s0.heap.objs.size) := by rfl) (hpl : (backTo pos (starEach es (envF F f s0.heap.objs.size))).any (·.1) = false := by rfl)
    (hev : eval (.Call (.Attribute (.Call (.Name "super" p0) [] [] p1) name apos) (e :: es) [] pos) (envF F f s0.heap.objs.size) = (do
      let ov ← attributeBase (.Call (.Name "super" p0) [] [] p1) name (envF F f s0.heap.objs.size) (eval (.Call (.Name "super" p0) [] [] p1) (envF F f s0.heap.objs.size))
      standAt apos.atName
      let (fx, first) ← holding [ov] (getMethod ov name pl)
      callWith pos fx first (backTo pos (starEach (e :: es) (envF F f s0.heap.objs.size))) []) := by rfl) :
    PSA (ncx CX P w K mg base N F f A outer s0 H0 E) (.func F.body (envF F f s0.heap.objs.size)) (.Expr (.Call (.Attribute (.Call (.Name "super" p0) [] [] p1) name apos) (e :: es) [] pos) pos2) (tSup D sp E1 ta) := by
  refine ⟨fun pins s σ H Dn I h => ?_⟩
  obtain ⟨x, dx, fs, h0, hx0, h⟩ := h
  obtain ⟨oc, od, osl, dV, kV, doc, pm, an, ct, lk⟩ := S.lk
  obtain ⟨ccl, cld, csl, hcell⟩ := S.cell
  obtain ⟨kcl, kcd, kvs, kcs, tf, hcode, hvs⟩ := S.code
  obtain ⟨cdD, hD⟩ := S.clsD
  obtain ⟨ar, har, hae⟩ := hp
  have KX : K.In s.heap := I.kIn
  show _root_.PySem.wpAt (model P w) (A.deeper (envF F f s0.heap.objs.size)) _ (exec (.Expr _ pos2) (envF F f s0.heap.objs.size)) _ _ s
  refine ks_wpAt_Expr_any ?_ hi hs
  refine ks_wpAt_MethodCall (pl := pl) ?_ hev
  obtain ⟨oD, hD1, hD2⟩ : ∃ oD, s.heap.get? D = some oD ∧ oD.data = .cls cdD := by
    unfold clsIn at hD
    split at hD
    · rename_i c d cd' sl ho
      cases hD
      exact ⟨_, KX _ _ ho, rfl⟩
    · cases hD
  obtain ⟨odx, J⟩ := inst_at I hx0
  refine ks_wpAt_super_base (env := envF F f s0.heap.objs.size) hks hkc hat rfl (KX _ _ lk) rfl har rfl (KX _ _ hcode) rfl hvs (by simp) S.top ?_
  obtain ⟨mb, b1, b2⟩ := I.mod.blt
  have gN : s.heap.Ns (envF F f s0.heap.objs.size).globals mg := by
    have := I.mod.glob.keeps I.bk
    exact this
  have bN : s.heap.Ns (envF F f s0.heap.objs.size).builtins mb := by
    have := b1.keeps I.bk
    exact this
  refine ks_loadName_global hk hks (Calls.loadGlobal_builtin (env := envF F f s0.heap.objs.size) gN S.sup bN ((b2 "super" (by decide)).trans (show bootBuiltins "super" = some (.type "super") by decide +kernel)) ⟨rfl, ?_⟩)
  have hcl : (envF F f s0.heap.objs.size).cells.lookup ("__class__" : Str) = some cc := by
    show F.cl.lookup ("__class__" : Str) = some cc
    rw [S.cl]; rfl
  refine wpAny_loadName_free (env := envF F f s0.heap.objs.size) hk hkc hcl ⟨_, KX _ _ hcell, rfl⟩ ?_
  obtain ⟨m, hn, hl⟩ := I.loc
  obtain ⟨u, ru, lu⟩ := hl 0 "self" (.ref x) hN h0 (.inl hloc)
  obtain rfl : u = Value.ref x := ru
  have hm : m ("self" : Str) = some (.ref x) := by
    rcases lu with ⟨_, q⟩ | ⟨z, _⟩
    · exact q
    · have z1 : F.scope.names.lookup ("self" : Str) = some .cell ∨ F.scope.names.lookup ("self" : Str) = some .free := z
      rw [hloc] at z1
      rcases z1 with z1 | z1 <;> cases z1
  rw [hae]
  refine wpAny_loadName_local (env := envF F f s0.heap.objs.size) hk hloc hn hm ?_
  obtain ⟨hp_, g_, d_, t_, o_⟩ := s
  refine ks_wpAny_isType_cls hD1 hD2 ⟨rfl, ?_⟩
  refine ks_wpAny_call_super hD1 hD2 J.at_ J.cls (fun c e => ?_) (looks_mroIn KX S.sub) (fun h' eso k => ?_)
  · have := J.no
    unfold notCls at this
    rw [e] at this
    exact Bool.noConfusion this
  -- the super object is there
  have I1 : Inv (ncx CX P w K mg base N F f A outer s0 H0 E) pins σ H ⟨h', g_, d_, t_, o_⟩ := I.kept (t' := t_) k
  have KX1 : K.In h' := I1.kIn
  obtain ⟨od1, J1⟩ := inst_at I1 hx0
  have hat2 := S.at_
  unfold ks_superIn at hat2
  rw [hD] at hat2
  obtain ⟨of, hof, hofc⟩ : ∃ of, h'.get? f2 = some of ∧ of.cls = .type "function" := by
    have ht' : (K.lookup f2).map (·.cls) = some (.type "function") := S.ty
    cases z : K.lookup f2 with
    | none => rw [z] at ht'; cases ht'
    | some of => rw [z] at ht'; exact ⟨of, KX1 _ _ z, Option.some.inj ht'⟩
  refine ks_wpAny_getMethod_super eso (looks_opaque KX1 S.any) (l₀ := cdD.mro) ?_ rfl KX1 hat2 hof hofc (ks_ne KX1 J1 hD) hat ?_
  · exact fun A Q E s k q => wpAny_bind ((looks_clsIn KX1 hD) A _ E s k (wpAny_pure q))
  have I2 := ClX.met_new (C := x) (g := f2) I1
  show wpAny _ _ (callWith pos (.ref h'.objs.size) [] (backTo pos (starEach (e :: es) (envF F f s0.heap.objs.size))) []) _ _ _
  refine ClX.callwith_cm (X := ncx CX P w K mg base N F f A outer s0 H0 E) I2 (ClX.base_none I1 (Nat.le_refl _)) S.fi (thn (ha.run pos _ _ σ H _ I2 h) fun us s3 ⟨vs, H2, I3, rv, q2⟩ => ⟨⟨ClX.pin_at I3, I3.kIn⟩, ?_⟩) hst hpl
  refine thn (ClX.run_cm (X := ncx CX P w K mg base N F f A outer s0 H0 E) F2 hr hx I3 rv q2) fun v s4 hv => ?_
  obtain ⟨v', H4, I4, _, q4⟩ := hv
  exact ⟨σ, H4, I4, q4⟩
/-- such a def by its body -/
theorem fn_sup (S : SupK K mg P F.qual F f cc D f2 name) (Sc : NScope N ps ["__class__"] F.scope) (len : ∀ vs H Q E, sp vs H Q E → vs.length = ps.length) (fd : FuncData) (osl : Array (Option Value)) (oc : Value) (od : Option Addr) (dV kV doc pm ct : Value) (an : Option Addr)
    (hfd : fd = fnX F.name F.qual F.params F.body F.scope F.cl dV kV doc pm an (.ref F.c) ct) (lk : K.lookup f = some ⟨oc, od, .func fd, osl⟩)
    (hbody : ∀ (A : Around) (outer : List Env) (s : Shared) (H : Hp) (vs : List V) (Q : VK) (E : XK), Room k (A.deeper (envF F f s.heap.objs.size)) → sp vs H Q E →
      ∃ t, PSsA (ncx CX P w K mg base N F f A outer s H E) (.func F.body (envF F f s.heap.objs.size)) F.body t ∧ t { nx := fun _ H' => Q .non H', rt := Q } (startF N vs [some (.ref D)]) H) :
    FnOk P w K mg base CX (k + 1) f fd ps sp := by
  subst hfd
  refine ⟨len, fun A outer s H args us vs Q E hr e0 hb r hsp => ?_⟩
  have hl := len _ _ _ _ hsp
  have KX : K.In s.heap := e0.mod.kin.keeps fun b o e => (e0.bs b o e).1
  have lim : s.heap.NoLimit := e0.mod.nolimit.keeps fun b o e => (e0.bs b o e).1
  obtain ⟨ccl, cld, csl, hcell⟩ := S.cell
  have C : CellsAt F.cl ["__class__"] [some (.ref D)] s.heap H := by
    have hcb : base.get? cc = some ⟨ccl, cld, .cell (some (.ref D)), csl⟩ := e0.mod.kin _ _ hcell
    have one : ∀ y c, F.cl.lookup y = some c → y = ("__class__" : Str) ∧ c = cc := fun y c q => by
      rw [S.cl] at q
      unfold List.lookup at q
      split at q
      · rename_i h; exact ⟨eq_of_beq h, (Option.some.inj q).symm⟩
      · cases q
    refine ⟨rfl, fun y c q => ?_, fun x y c q1 q2 => (one x c q1).1.trans (one y c q2).1.symm, fun i y q => ?_⟩
    · obtain ⟨_, rfl⟩ := one y c q
      exact ⟨(e0.bs _ _ hcb).2, _, ⟨_, KX _ _ hcell, rfl⟩⟩
    · match i, q with
      | 0, q =>
        cases q
        refine ⟨cc, by rw [S.cl]; rfl, fun v hv => ?_⟩
        cases hv
        exact ⟨.ref D, rfl, ⟨_, KX _ _ hcell, rfl⟩⟩
      | i + 1, q => simp at q
  refine ks_codeAny_call_defAt hr.depth (KX _ _ lk) rfl lim (codeRec_of KX S.cd) rfl hb (fun y hy => Sc.nocell y hy) (fun y hy => Sc.par y.1 (List.of_mem_zip hy).1) (fun h₁ hns kp => ?_) Sc.co Sc.gen Sc.kind
  obtain ⟨t, ht, hq⟩ := hbody A outer s H vs Q E (hr.deeper _) hsp
  have I : Inv (ncx CX P w K mg base N F f A outer s H E) [] (startF N vs [some (.ref D)]) H { s with heap := h₁, toks := s.toks + (ps.zip us).length } := inv_startN Sc hr.hd e0 hl r C hns kp
  refine ks_wpAt_mono (ht.run [] _ _ H _ I hq) (fun fl s' hs => ?_) fun e s' hs => hs
  have fin : ∀ {σ' : L2.St} {H' : Hp} {v : V} {u : Value}, Inv (ncx CX P w K mg base N F f A outer s H E) [] σ' H' s' → L2.RelV v u → Q v H' → CE outer P w H s Q u s' :=
    fun {σ' H' v u} J rv q => ⟨v, H', J.os, J.bare, J.base, J.hok, rv, q⟩
  cases fl with
  | ret u =>
    obtain ⟨v, σ', H', J, rv, q⟩ := hs
    exact fin J rv q
  | next =>
    obtain ⟨σ', H', J, q⟩ := hs
    exact fin (v := V.non) (u := Value.none) J rfl q
  | brk =>
    obtain ⟨_, _, _, q⟩ := hs
    exact False.elim q
  | cont =>
    obtain ⟨_, _, _, q⟩ := hs
    exact False.elim q
end
end KR
set_option Elab.async false
set_option linter.all false
set_option maxRecDepth 100000
set_option maxHeartbeats 4000000
namespace KD
open PySem PySem.Spec PyProof.Rows L2 KT KR NdefX
structure PtOk (K : PySem.W.Frag) (mg : Str → Option Value) (C : Kd) : Prop where
  rd : ∃ mc u, ClX.CRead K C.part mc ∧ ClX.CVal K C.part mc "DEPTH" (.int 4) u
abbrev n_Ki : List Str := ["self", "name", "times", "__class__"]
theorem sc_Ki : NScope n_Ki ["self", "name", "times"] ["__class__"] (defScope s_Kind_init) := nscope_by (by decide +kernel)
theorem ki_self : (defScope s_Kind_init).names.lookup ("self" : Str) = some .local := by decide +kernel
theorem ki_super : (defScope s_Kind_init).names.lookup ("super" : Str) = some .globalImplicit := by decide +kernel
theorem ki_class : (defScope s_Kind_init).names.lookup ("__class__" : Str) = some .free := by decide +kernel
/-- Kind.__init__ with its closure -/
def kiF (cc cda : Addr) : NF := ⟨"__init__", "Kind.__init__", defArgs s_Kind_init, defBody s_Kind_init, defScope s_Kind_init, [("__class__", cc)], cda⟩
section
variable {P : Program} {w : World} {K : PySem.W.Frag} {mg : Str → Option Value} {base : Heap} {f f2 cc cda : Addr} {fd : FuncData} {C : Kd}
/-- Part.__init__(self, 0) on a new kind -/
def spPI (cK : Addr) : Sp := fun vs H Q _ => ∃ a dx, vs = [.ref a, .int 0] ∧ H a = some (.ins cK dx []) ∧ Q .non (upd H a (.ins cK dx [("depth", .int 0)]))
theorem ok_part_init (T : KdOk K mg C) (R : PtOk K mg C) (F : FnDf K "__init__" "Part.__init__" s_Part_init f fd) : FnOk P w K mg base CX0 1 f fd p_Part_init (spPI C.kind) := by
  refine F.ok sc_Part_init (fun vs H Q E h => ?_) (fun cdv A outer s H vs Q E hr h => ?_)
  · obtain ⟨a, dx, rfl, _⟩ := h; rfl
  · obtain ⟨a, dx, rfl, ha, q⟩ := h
    have n := sc_Part_init.nd
    obtain ⟨mc, u, rd, rv⟩ := R.rd
    refine ⟨_, PSs.nox (pss_ct (ps_if (pt_cmpR op_gt (pv 1) (ClX.pe_cval (C8.pe_gc (by rfl) (gref T.gPart))) (nomark _))
        pss_never
        pss_nil)
      (pss_one (ps_fld (pv 0) (pv 1) rfl))), ?_⟩
    refine ⟨fun σ' H' => σ' = [some (.ref a), some (.int 0)] ∧ H' = H, ⟨_, rfl, C.part, mc, _, u, rfl, rd, rv, _, _, rfl, rfl, false, rfl, iff0 rfl ⟨rfl, rfl⟩⟩, ?_⟩
    rintro σ1 H1 ⟨rfl, rfl⟩
    exact ⟨_, rfl, _, rfl, a, _, dx, _, rfl, ha, T.kind.cl, T.nDepth, by simp, q⟩
def spKI (cK : Addr) : Sp := fun vs H Q _ => ∃ a dx x t, vs = [.ref a, .str x, .int t] ∧ H a = some (.ins cK dx []) ∧ GdName x ∧ 1 ≤ t ∧ t ≤ 8 ∧ ∀ H', Same (hide a H) H' → KdAt cK H' a (x, t) → Q .non H'
theorem ok_kind_init (T : KdOk K mg C) (G1 : Fd P w K mg base CX0 1 "is_name" spName) (G2 : Fd P w K mg base CX0 2 "is_between" spBetween) (S : SupK K mg P "Kind.__init__" (kiF cc cda) f cc C.kind f2 "__init__") (F2 : FnR P w K mg base CX0 1 f2 (spPI C.kind))
    (osl : Array (Option Value)) (oc : Value) (od : Option Addr) (dV kV doc pm ct : Value) (an : Option Addr)
    (hfd : fd = PySem.W.fnX "__init__" "Kind.__init__" (defArgs s_Kind_init) (defBody s_Kind_init) (defScope s_Kind_init) [("__class__", cc)] dV kV doc pm an (.ref cda) ct) (lk : K.lookup f = some ⟨oc, od, .func fd, osl⟩) :
    FnOk P w K mg base CX0 4 f fd ["self", "name", "times"] (spKI C.kind) := by
  refine fn_sup (N := n_Ki) (F := kiF cc cda) S sc_Ki (fun vs H Q E h => ?_) fd osl oc od dV kV doc pm ct an hfd lk (fun A outer s H vs Q E hr h => ?_)
  · obtain ⟨a, dx, x, t, rfl, _⟩ := h; rfl
  · obtain ⟨a, dx, x, t, rfl, ha, gx, t1, t8, q⟩ := h
    have n := sc_Ki.nd
    refine ⟨_, pssa_ct (psa_of (ps_if (pt_not (pt_val (pe_d (E := E) G1 (hr.mono (by decide)) C8.pass0 (pa_cons (pv 1) pa_nil))))
        pss_never
        pss_nil))
      (pssa_ct (psa_of (ps_if (pt_not (pt_val (pe_d (E := E) G2 (hr.mono (by decide)) C8.pass0 (pa_cons (pv 2) (pa_cons pe_int (pa_cons (C8.pe_gc (by rfl) T.gMT) pa_nil))))))
        pss_never
        pss_nil))
      (pssa_ct (ps_super (CX := CX0) (E1 := E) (F := kiF cc cda) (N := n_Ki) S F2 (hr.mono (by decide)) C8.pass0 rfl ki_self ki_super ki_class rfl ⟨_, rfl, rfl⟩ (by decide) (pa_cons pe_int pa_nil) (by rfl) (by rfl))
      (pssa_of (pss_cons (ps_fld (pv 0) (pv 1) rfl)
      (pss_one (ps_fld (pv 0) (pv 2) rfl)))))), ?_⟩
    have nB : hide a H a = none := if_pos rfl
    have sB : Same (hide a H) H := hide_same
    refine ⟨fun σ' H' => σ' = [some (.ref a), some (.str x), some (.int t), some (.ref C.kind)] ∧ Same H H', ?_, ?_⟩
    · exact u_if (u_not (u_B ⟨_, rfl, x, rfl, gx, fun H1 s1 => ⟨true, rfl, iff0 rfl ⟨rfl, s1⟩⟩⟩))
    rintro σ1 H1 ⟨rfl, s1⟩
    refine ⟨fun σ' H' => σ' = [some (.ref a), some (.str x), some (.int t), some (.ref C.kind)] ∧ Same H H', ?_, ?_⟩
    · refine u_if (u_not (u_B ⟨_, rfl, t, 1, 8, rfl, _, rfl, ?_⟩))
      rw [decide_eq_true t1, decide_eq_true t8]
      exact iff0 rfl ⟨rfl, s1⟩
    rintro σ2 H2 ⟨rfl, s2⟩
    have a2 := s2 _ _ ha
    refine ⟨fun σ' H' => σ' = [some (.ref a), some (.str x), some (.int t), some (.ref C.kind)] ∧ Same (hide a H) H' ∧ H' a = some (.ins C.kind dx [("depth", .int 0)]), ?_, ?_⟩
    · exact ⟨a, dx, _, rfl, a2, a, dx, rfl, a2, rfl, same_mut (sB.trans s2) nB, upd_same⟩
    rintro σ3 H3 ⟨rfl, s3, a3⟩
    refine ⟨_, rfl, _, rfl, a, _, dx, _, rfl, a3, T.kind.cl, T.nName, by simp, ?_⟩
    have s4 := same_mut (o := .ins C.kind dx (putF "name" (.str x) [("depth", .int 0)])) s3 nB
    have a4 : upd H3 a (.ins C.kind dx (putF "name" (.str x) [("depth", .int 0)])) a = some (.ins C.kind dx [("depth", .int 0), ("name", .str x)]) := upd_same
    generalize upd H3 a (.ins C.kind dx (putF "name" (.str x) [("depth", .int 0)])) = H4 at s4 a4
    exact ⟨_, rfl, _, rfl, a, _, dx, _, rfl, a4, T.kind.cl, T.nTimes, by simp, q _ (same_mut s4 nB) ⟨dx, upd_same⟩⟩
end
end KD
set_option Elab.async false
set_option linter.all false
set_option maxRecDepth 100000
set_option maxHeartbeats 4000000
namespace PySem
namespace KRF
open Sem (wp)
section
variable {M : Model} {A : Around} {R : GenEnd} {Y : Protocol} {n : Nat} {s₀ : Shared} {c c' : Code} {fs : List Frame} {s : Shared} {env : Env} {K : Flow → Sem Fin} {H : Value → Sem Fin} {gd : Bool → Bool} {lv : List Value → List Value}
theorem seg_runOwn (h : ∀ p, Seg M A R Y n s₀ c' (M.den c') (.ret (fun r => ((match r with | .ok f => (.pure f : Sem Flow) | .error e => .raise e).onRaise fun (x : Value) => do
        if (← field x 1) == Value.none then unsupported "frame.own-activation:exception-without-traceback"
        setFlight x env.frame).wrap K H gd lv) none (gd false) (lv []) c p [] :: fs) s) :
    Seg M A R Y n s₀ c ((runOwn c' env).wrap K H gd lv) fs s := seg_call h
end
section
variable {prog : Program} {w : World} {A : Around} {R : GenEnd} {Y : Protocol} {n : Nat} {s₀ : Shared} {fs : List Frame} {s : Shared} {env : Env}
abbrev noted (env : Env) (x : Value) : Sem Fin := (do noteFrame x env; theTreesLotGoes x : Sem Unit).wrap (fun _ => .raise x) .raise id id
theorem seg_forLoop {target : Expr} {it : Value} {body : List Stmt}
    (h : wpAny (model prog w) (A.over (.forLoop target it body [] env) fs) (pyNext it) (fun r s1 => match r with
      | none => Seg (model prog w) A R Y n s₀ (.forLoop target it body [] env) (.pure (.again (.block [] env))) fs s1
      | some v => wpAny (model prog w) (A.over (.forLoop target it body [] env) fs) (letOwnedTupleGo target it v) (fun _ s2 => wpAny (model prog w) (A.over (.forLoop target it body [] env) fs) (assign target env v) (fun _ s3 =>
          Seg (model prog w) A R Y n s₀ (.forLoop target it body [] env) ((execs body env).wrap (fun f => match f with
            | .next | .cont => .pure (.again (.forLoop target it body [] env))
            | .brk => .pure (.done .next)
            | .ret v => .pure (.done (.ret v))) (noted env) id id) fs s3)
          (fun x s' => Seg (model prog w) A R Y n s₀ (.forLoop target it body [] env) (noted env x) fs s') s2) (fun x s' => Seg (model prog w) A R Y n s₀ (.forLoop target it body [] env) (noted env x) fs s') s1)
      (fun x s' => Seg (model prog w) A R Y n s₀ (.forLoop target it body [] env) (noted env x) fs s') s) :
    Seg (model prog w) A R Y n s₀ (.forLoop target it body [] env) ((model prog w).den (.forLoop target it body [] env)) fs s := by
  show Seg _ A R Y n s₀ _ ((forTurn target it body [] env).onRaise (fun x => do noteFrame x env; theTreesLotGoes x)) fs s
  have eh : ∀ x : Value, ((do noteFrame x env; theTreesLotGoes x : Sem Unit).bind fun _ => (.raise x : Sem Fin)) = noted env x := fun x => Sem.bind_eq_wrap _ _
  unfold forTurn
  rw [Sem.onRaise_eq_wrap]
  refine seg_bind_wrap (wpAny_standAt ?_)
  refine seg_bind_wrap (wpAny_onRaise (wpAny_mono h (fun r s1 h1 => ?_) fun x s' hx => wpAny_standAt (by rw [eh x]; exact hx)))
  cases r with
  | none => exact h1
  | some v =>
    refine seg_bind_wrap (wpAny_mono h1 (fun _ s2 h2 => ?_) fun x s' hx => by rw [eh x]; exact hx)
    refine seg_bind_wrap (wpAny_mono h2 (fun _ s3 h3 => ?_) fun x s' hx => by rw [eh x]; exact hx)
    rw [Sem.bind_eq_wrap', Sem.wrap_wrap]
    rw [Sem.wrap_congr (execs body env) _ _ (K' := fun f => match f with
            | .next | .cont => .pure (.again (.forLoop target it body [] env))
            | .brk => .pure (.done .next)
            | .ret v => .pure (.done (.ret v))) (H' := noted env)
        (fun f => by cases f <;> rfl)
        (fun e => by exact eh e)]
    exact h3
theorem seg_block_nil {k : Result → Sem Fin} {g : Bool} {l kp : List Value} {c : Code} {p : Pos} (h : Seg (model prog w) A R Y n s₀ c (k (.ok .next)) fs s) :
    Seg (model prog w) A R Y n s₀ (.block [] env) ((model prog w).den (.block [] env)) (.ret k none g l c p kp :: fs) s := by
  have e : (model prog w).den (.block [] env) = leafOf (.ok .next) := rfl
  rw [e]
  exact seg_leaf (.ok .next) h
end
end KRF
end PySem
namespace KR
open PySem PySem.Spec PyProof.Rows L2
/-- for in a generator: the list is what is out so far -/
def tGFor (wi : TI) (g : TG) (tb : TGn) : TGn := fun D ys σ H => wi σ H fun J H1 => ∃ W : Nat → Nat → List V → L2.St → Hp → Prop, (∃ m, W 0 m ys σ H1) ∧ ∀ i m ys σ H, W i m ys σ H →
  (J.stop i H ∧ D.nx ys σ H) ∨ (J.go i H ∧ ∃ N : List V → L2.St → Hp → Prop, (∀ ys' σ' H', N ys' σ' H' → ∃ m', m' < m ∧ W (i + 1) m' ys' σ' H') ∧ ∀ x H', J.yld i H x H' → g x σ H' fun σ2 H2 => tb { D with nx := N, ct := N, bk := D.nx } ys σ2 H2)
section
variable {X : Cx}
theorem gs_for {tg iter : Expr} {body : List Stmt} {wi : TI} {g : TG} {tb : TGn} {pos : Pos} (hp : PassesOwn (model X.prog X.w) X.A X.env X.xe) (hc : X.calm = true) (hi : PI X tg iter wi) (hg : PG X tg g) (hb : GSs X body tb)
    (hs : ∀ x, foldedSetIterable iter X.env x = pure x := by intro _; rfl) : GS X (.For tg iter body [] pos) (tGFor wi g tb) := by
  refine ⟨fun A S ip R n ys s₀ c fs K J gd lv s σ H D gc hn k hI ht => ?_⟩
  obtain ⟨acc, cc, r, I⟩ := hI
  rw [exec_For]
  have ov := gc.over
  refine seg_bind_wrap (wpAny_standAt ?_)
  refine seg_bind_wrap ?_
  rw [ov]
  refine wpAny_mono (hi.run _ s σ H _ I ht) (fun v s1 h1 => ?_) fun x s' hx => k.exc n s₀ x s' hx
  refine seg_bind_wrap (wpAny_of_eq (hs v) ?_)
  refine seg_bind_wrap (wpAny_standAt ?_)
  refine seg_bind_wrap ?_
  rw [ov]
  refine wpAny_holding (wpAny_mono h1 (fun itv s2 h2 => ?_) fun x s' hx => k.exc n s₀ x s' hx)
  obtain ⟨it, fp, tn, Jt, H2, e, I2, T, st2, f2, W, ⟨m0, w0⟩, turn⟩ := h2
  subst e
  refine PySem.KRF.seg_runOwn fun p => ?_
  have gl := fun (kk : Result → Sem PySem.Fin) => gc_loop (k := kk) (c' := .forLoop tg (.ref it) body [] X.env) (l := lv []) (kp := []) (p := p) gc rfl rfl
  -- the iterator's objects
  have fs0 : ∀ b ∈ fp, b ≠ S := fun b hb e => by
    have := (f2 b hb).2.2.2.2.2 (S, lstObj acc cc) (List.mem_append_right _ (List.mem_cons_self ..))
    exact this e.symm
  have stat : ∀ {H' : Hp} {acc' : Array Value} {cc' : Nat}, (∀ b ∈ fp, H' b = none) → ∀ b ∈ fp, FpOk X ((S, lstObj acc' cc') :: ip) H' b := fun {H' acc' cc'} hn b hb => by
    refine ⟨hn b hb, (f2 b hb).2.1, (f2 b hb).2.2.1, (f2 b hb).2.2.2.1, (f2 b hb).2.2.2.2.1, fun q hq => ?_⟩
    rcases List.mem_append.mp hq with hq | hq
    · exact (f2 b hb).2.2.2.2.2 q (List.mem_append_left _ hq)
    · rcases List.mem_cons.mp hq with rfl | hq
      · exact (fs0 b hb).symm
      · exact (f2 b hb).2.2.2.2.2 q (List.mem_append_right _ (List.mem_cons_of_mem _ hq))
  have loop : ∀ (m i n : Nat) (ys : List V) (s₀ s : Shared) (σ : L2.St) (H : Hp), n + ys.length = sizeLine → W i m ys σ H → GI X S ip ys σ H s → tn i s.heap → (∀ b ∈ fp, H b = none) →
      Seg (model X.prog X.w) A R (GY X S) n s₀ (.forLoop tg (.ref it) body [] X.env) ((model X.prog X.w).den (.forLoop tg (.ref it) body [] X.env))
        (.ret (fun r => ((match r with | .ok f => (.pure f : Sem Flow) | .error e => .raise e).onRaise (cameBack X.env)).wrap K J gd lv) none (gd false) (lv []) c p [] :: fs) s := by
    intro m
    induction m using Nat.strongRecOn with
    | ind m ih =>
      intro i n ys s₀ s σ H hn w hI st fr
      have ee : ∀ (n : Nat) (s₀ : Shared) (x : Value) (s' : Shared), X.xe x s' → Seg (model X.prog X.w) A R (GY X S) n s₀ (.forLoop tg (.ref it) body [] X.env)
          (PySem.KRF.noted X.env x)
          (.ret (fun r => ((match r with | .ok f => (.pure f : Sem Flow) | .error e => .raise e).onRaise (cameBack X.env)).wrap K J gd lv) none (gd false) (lv []) c p [] :: fs) s' := fun n s₀ x s' hx => by
        refine seg_wrap ?_
        rw [(gl _).over]
        refine wpAny_bind (wpAny_mono (hp x s' hx) (fun _ s'' hcb => wpAny_theTreesLotGoes ?_) fun y s'' hcb => ?_)
        · exact seg_leaf (.error x) (seg_cameBack gc k hcb)
        · exact seg_leaf (.error y) (seg_cameBack gc k hcb)
      refine PySem.KRF.seg_forLoop ?_
      rw [(gl _).over]
      obtain ⟨acc, cc, r, I3⟩ := hI
      rcases turn i m ys σ H w with ⟨stop, qn⟩ | ⟨go, N, hN, step⟩
      · refine wpAny_mono (T.done X rfl rfl rfl hc i _ s σ H X.xe I3 (stat fr) st stop) (fun r4 s4 h4 => ?_) fun x s' hx => ee n s₀ x s' hx
        obtain ⟨hr, I4⟩ := h4
        subst hr
        exact seg_again rfl (PySem.KRF.seg_block_nil (k.ok n ys s₀ s4 .next hn ⟨σ, H, ⟨acc, cc, r, I4⟩, qn⟩))
      · refine wpAny_mono (T.item X rfl rfl rfl hc i _ s σ H X.xe I3 (stat fr) st go) (fun r4 s4 h4 => ?_) fun x s' hx => ee n s₀ x s' hx
        obtain ⟨u, hr, h4⟩ := h4
        subst hr
        refine wpAny_mono h4 (fun _ s5 h5 => ?_) fun x s' hx => ee n s₀ x s' hx
        obtain ⟨x, H5, I5, r5, y5, st5, fr5⟩ := h5
        have I5' : Inv X ((S, lstObj acc cc) :: (ip ++ pinsAt fp s5.heap)) σ H5 s5 := I5.pinned (stat fr5) (T.obj _ _ st5)
        refine wpAny_mono (hg.run _ s5 σ H5 x u _ I5' r5 (step x H5 y5)) (fun _ s6 h6 => ?_) fun x s' hx => ee n s₀ x s' hx
        obtain ⟨σ6, H6, I6, q6⟩ := h6
        have ipS : ∀ q ∈ ip ++ pinsAt fp s5.heap, q.1 ≠ S := fun q hq => by
          rcases List.mem_append.mp hq with hq | hq
          · exact gc.ip q hq
          · exact fs0 _ (of_pinsAt hq).1
        have gb : GC X S (ip ++ pinsAt fp s5.heap) A (.forLoop tg (.ref it) body [] X.env) (.ret (fun r => ((match r with | .ok f => (.pure f : Sem Flow) | .error e => .raise e).onRaise (cameBack X.env)).wrap K J gd lv) none (gd false) (lv []) c p [] :: fs) id :=
          ⟨gc.pn, ipS, gc.apart, (gl _).over, (gl _).split, (gl _).guard, rfl⟩
        refine hb.run A S (ip ++ pinsAt fp s5.heap) R n ys s₀ _ _ _ _ id id s6 σ6 H6 { D with nx := N, ct := N, bk := D.nx } gb hn ⟨fun n' ys' s₀' s3 f hn' hs => ?_, fun n' s₀' x s3 hx => ee n' s₀' x s3 hx⟩ ⟨acc, cc, r, I6⟩ q6
        have un : ∀ {ys' : List V} {σ' : L2.St} {H' : Hp}, GI X S (ip ++ pinsAt fp s5.heap) ys' σ' H' s3 → GI X S ip ys' σ' H' s3 ∧ tn (i + 1) s3.heap ∧ ∀ b ∈ fp, H' b = none := fun {ys' σ' H'} hI' => by
          obtain ⟨acc', cc', r', I'⟩ := hI'
          have I'' : Inv X (((S, lstObj acc' cc') :: ip) ++ pinsAt fp s5.heap) σ' H' s3 := I'
          refine ⟨⟨acc', cc', r', I''.unpinned⟩, T.keep _ _ _ st5 fun b hb o e => (I''.pin (b, o) (List.mem_append_right _ (List.mem_append_right _ (mem_pinsAt hb e)))).1, fun b hb => ?_⟩
          obtain ⟨o, e, d⟩ := T.obj _ _ st5 b hb
          exact (I''.pin (b, o) (List.mem_append_right _ (List.mem_append_right _ (mem_pinsAt hb e)))).2.1
        cases f with
        | next =>
          obtain ⟨σ3, H3, I3', n3⟩ := hs
          obtain ⟨m', hm, w3⟩ := hN ys' σ3 H3 n3
          obtain ⟨a1, a2, a3⟩ := un I3'
          exact seg_again rfl (ih m' hm (i + 1) n' ys' s₀' s3 σ3 H3 hn' w3 a1 a2 a3)
        | cont =>
          obtain ⟨σ3, H3, I3', n3⟩ := hs
          obtain ⟨m', hm, w3⟩ := hN ys' σ3 H3 n3
          obtain ⟨a1, a2, a3⟩ := un I3'
          exact seg_again rfl (ih m' hm (i + 1) n' ys' s₀' s3 σ3 H3 hn' w3 a1 a2 a3)
        | brk =>
          obtain ⟨σ3, H3, I3', n3⟩ := hs
          exact seg_leaf (.ok .next) (k.ok n' ys' s₀' s3 .next hn' ⟨σ3, H3, (un I3').1, n3⟩)
        | ret v =>
          obtain ⟨v3, σ3, H3, I3', rv3, n3⟩ := hs
          exact seg_leaf (.ok (.ret v)) (k.ok n' ys' s₀' s3 (.ret v) hn' ⟨v3, σ3, H3, (un I3').1, rv3, n3⟩)
  exact loop m0 0 n ys s₀ s2 σ H2 hn w0 ⟨acc, cc, r, I2⟩ st2 fun b hb => (f2 b hb).1
end
end KR
set_option Elab.async false
set_option linter.all false
set_option maxRecDepth 100000
set_option maxHeartbeats 4000000
namespace KD
open PySem PySem.Spec PyProof.Rows L2 KT KR
theorem gsc_bounds : GScope n_Zone_bounds p_Zone_bounds (defScope s_Zone_bounds) := ⟨rfl, rfl, rfl, by decide +kernel, rfl, by decide +kernel, by decide +kernel⟩
section
variable {P : Program} {w : World} {K : PySem.W.Frag} {mg : Str → Option Value} {base : Heap} {f fI : Addr} {fd : FuncData} {C : Kd}
def spNP (cK cZ : Addr) : Sp := fun vs H Q _ => ∃ z kas ks told T, vs = [.ref z] ∧ ZoneAt cK cZ H z kas ks told (some T) ∧ Q .non H
theorem ok_need_point (Z : ZnOk K C.zone) (F : FnDf K "need_point" "Zone.need_point" s_Zone_need_point f fd) : FnOk P w K mg base CX0 1 f fd p_Zone_need_point (spNP C.kind C.zone) := by
  refine F.ok sc_Zone_need_point (fun vs H Q E h => ?_) (fun cdv A outer s H vs Q E hr h => ?_)
  · obtain ⟨z, kas, ks, told, T, rfl, _⟩ := h; rfl
  · obtain ⟨z, kas, ks, told, T, rfl, hz, q⟩ := h
    have hu := hu_of hr
    have n := sc_Zone_need_point.nd
    obtain ⟨dx, kt, st, nt, tt, tv, bas, h1, h2, h3, h4, h5, h6, h7, h8⟩ := hz
    refine ⟨_, PSs.nox (pss_one (ps_if (pt_cmp (pc_isN (pe_fld (pv 0) rfl)) rfl) pss_never pss_nil)), ?_⟩
    obtain ⟨d, kvs, rfl, hd, R⟩ := h8
    refine ⟨_, rfl, z, _, dx, _, _, rfl, h1, Z.cl, Z.nTable, rfl, ?_⟩
    exact ⟨false, rfl, iff0 rfl q⟩
def spBounds (cK cZ : Addr) : SpG := fun vs H Q _ => ∃ z kas ks told T, vs = [.ref z] ∧ ZoneAt cK cZ H z kas ks told (some T) ∧ ZOk ks told (some T) ∧ ∀ bas H', Same H H' → BdsAt H' bas (diffs (nms ks) T (nms ks)) → Q (bas.map V.ref) H'
theorem ok_bounds (Z : ZnOk K C.zone) (M : Md P w K mg base CX0 1 C.zone "need_point" (spNP C.kind C.zone)) (G : Fd P w K mg base CX0 1 "differences" spDiff) (F : FnDf K "bounds" "Zone.bounds" s_Zone_bounds f fd) : GFn P w K mg base 4 f fd p_Zone_bounds (spBounds C.kind C.zone) := by
  obtain ⟨oc, od, dV, kV, doc, pm, an, cdv, ct, osl, rfl, lk, hcd, hD, hK⟩ := F.ex
  refine gfn_of (N := n_Zone_bounds) lk hcd gsc_bounds (fun vs H Q E h => ?_) fun A outer s H vs Q E pn hr h => ?_
  · obtain ⟨z, kas, ks, told, T, rfl, _⟩ := h; rfl
  · obtain ⟨z, kas, ks, told, T, rfl, hz, ok, q⟩ := h
    have n := gsc_bounds.nd
    refine ⟨_, gss_cons (gs_ps (ps_expr (pe_m0 (pv 0) Z.cl M (hr.mono (by decide)) pass0)))
      (gss_cons (gs_for owns_gcx rfl (pi_list (pe_d G (hr.mono (by decide)) pass0 (pa_cons (pe_fld (pv 0) rfl) (pa_cons (pe_fld (pv 0) rfl) pa_nil)))) (pg_name (i := 1) n rfl (.inl rfl)) (gss_cons (gs_yield (pv 1)) gss_nil)) gss_nil), ?_⟩
    obtain ⟨dx, kt, st, nt, tt, tv, bas, h1, h2, h3, h4, h5, h6, h7, h8⟩ := id hz
    obtain ⟨d, kvs, rfl, hd, R⟩ := h8
    refine ⟨_, rfl, z, dx, _, rfl, h1, rfl, z, kas, ks, told, T, rfl, hz, ?_⟩
    refine ⟨_, rfl, z, _, dx, _, _, rfl, h1, Z.cl, Z.nTable, rfl, _, rfl, z, _, dx, _, _, rfl, h1, Z.cl, Z.nNames, rfl, ?_⟩
    refine ⟨d, kvs, T, nt, nms ks, rfl, hd, R, h5, ok.l7, fun l bas2 H1 s1 hl hb => ?_⟩
    have ln := hb.len
    have l1 := diffs_len (nms ks) T (nms ks)
    have l7 := ok.l7
    have l2 : (nms ks).length * (nms ks).length ≤ 7 * 7 := Nat.mul_le_mul l7 l7
    refine ⟨l, rfl, ⟨_, SqL.of hl⟩, ?_⟩
    refine ⟨fun i m ys σ' H' => m = bas2.length - i ∧ i ≤ bas2.length ∧ H' = H1 ∧ ys = (bas2.take i).map V.ref ∧ ∃ b, σ' = [some (.ref z), b], ⟨_, rfl, Nat.zero_le _, rfl, rfl, none, rfl⟩, ?_⟩
    rintro i m ys σ' H' ⟨rfl, hi, rfl, rfl, b, rfl⟩
    by_cases lt : i < bas2.length
    · have e1 : (bas2.map V.ref)[i]? = some (.ref bas2[i]) := by simp [lt]
      refine .inr ⟨⟨_, _, SqL.of hl, e1⟩, fun ys' σ' H2 => H2 = H' ∧ ys' = (bas2.take (i + 1)).map V.ref ∧ ∃ b, σ' = [some (.ref z), b], fun ys' σ' H2 hx => ⟨_, by omega, rfl, by omega, hx⟩, fun x H2 hy => ?_⟩
      obtain ⟨rfl, hy⟩ := hy
      have hy := hy _ (SqL.of hl)
      rw [e1] at hy
      obtain rfl := Option.some.inj hy
      refine ⟨?_, _, rfl, rfl, ?_, _, rfl⟩
      · rw [List.length_map, List.length_take, sizeLine_eq]; omega
      · rw [take_get (i := i) (x := bas2[i]) (by simp [lt]), List.map_append]; rfl
    · have e : i = bas2.length := by omega
      subst e
      refine .inl ⟨⟨_, SqL.of hl, by simp⟩, ?_⟩
      rw [List.take_length]
      exact q _ _ s1 hb
end
end KD
set_option Elab.async false
set_option linter.all false
set_option maxRecDepth 100000
set_option maxHeartbeats 4000000
namespace KD
open PySem PySem.Spec PyProof.Rows L2 KT KR
/-- only the pen is changed -/
abbrev But (p : Addr) (H H' : Hp) : Prop := Same (hide p H) (hide p H')
theorem But.of {p : Addr} {H H' : Hp} (s : Same H H') : But p H H' := hide_mono s
theorem But.upd {p : Addr} {H : Hp} {o : HO} : But p H (upd H p o) := by unfold But; rw [hide_upd]; exact Same.refl _
def PenAt (H : Hp) (p l : Addr) (n : Nat) : Prop := ∃ (cs : List Int) (a : Nat) (g : Int), H p = some (.lst [.ref l, .int a, .int g]) ∧ l ≠ p ∧ H l = some (.lst (cs.map V.int)) ∧ cs.length ≤ 63 ∧ a ≤ n ∧ 0 ≤ g
theorem PenAt.mono {H H' : Hp} {p l : Addr} {n : Nat} (s : Same H H') (h : PenAt H p l n) : PenAt H' p l n := let ⟨cs, a, g, h1, h2, h3, h4⟩ := h; ⟨cs, a, g, s _ _ h1, h2, s _ _ h3, h4⟩
theorem PenAt.more {H : Hp} {p l : Addr} {n m : Nat} (h : PenAt H p l n) (le : n ≤ m) : PenAt H p l m := let ⟨cs, a, g, h1, h2, h3, h4, h5, h6⟩ := h; ⟨cs, a, g, h1, h2, h3, h4, Nat.le_trans h5 le, h6⟩
theorem PenAt.set {H : Hp} {p l : Addr} {n a : Nat} {cs : List Int} {g : Int} (h2 : l ≠ p) (h3 : H l = some (.lst (cs.map V.int))) (h4 : cs.length ≤ 63) (h5 : a ≤ n) (h6 : 0 ≤ g) : PenAt (L2.upd H p (.lst [.ref l, .int a, .int g])) p l n :=
  ⟨cs, a, g, upd_same, h2, by rw [upd_ne h2]; exact h3, h4, h5, h6⟩
theorem dpInts {K : PySem.W.Frag} {H : Hp} : ∀ ns : List Int, DpAll K H (ns.map V.int) (ns.map PyData.int)
  | [] => .nil
  | n :: r => .cons (.int n) (dpInts r)
theorem shInts : ∀ ns : List Int, PyData.canLayAll0 (ns.map PyData.int) = true ∧ PyData.depthAll (ns.map PyData.int) = 0
  | [] => ⟨rfl, rfl⟩
  | n :: r => ⟨by rw [List.map_cons]; show (PyData.canLay0 (.int n) && PyData.canLayAll0 _) = true; rw [(shInts r).1]; rfl, by rw [List.map_cons]; show max (PyData.depth (.int n)) (PyData.depthAll _) = 0; rw [(shInts r).2]; rfl⟩
theorem shaped_ints (ns : List Int) : SeqAt.shaped (.list (ns.map PyData.int)) = true := by
  unfold SeqAt.shaped
  have h1 : PyData.canLay0 (.list (ns.map PyData.int)) = true := (shInts ns).1
  have h2 : PyData.depth (.list (ns.map PyData.int)) = 1 := by show PyData.depthAll _ + 1 = 1; rw [(shInts ns).2]
  rw [h1, h2]; rfl
theorem eqv_nil (ns : List Int) : PyData.eqv (.list (ns.map PyData.int)) (.list []) = decide (ns = []) := by
  cases ns with
  | nil => rfl
  | cons a r => rfl
theorem atI_get {α : Type} {xs : List α} {i : Int} (h0 : 0 ≤ i) (h1 : i < xs.length) : ∃ x, atI xs i = some x ∧ x ∈ xs ∧ xs[i.toNat]? = some x := by
  have h : i.toNat < xs.length := by omega
  refine ⟨xs[i.toNat], ?_, List.getElem_mem h, by simp [h]⟩
  unfold atI ixN
  rw [if_pos h0, if_pos h1]
  simp [h]
theorem atI_ints {ns : List Int} {i : Int} (h0 : 0 ≤ i) (h1 : i < ns.length) : ∃ x : Int, atI (ns.map V.int) i = some (.int x) := by
  obtain ⟨x, h, m, _⟩ := atI_get (xs := ns.map V.int) h0 (by rw [List.length_map]; exact h1)
  obtain ⟨y, _, rfl⟩ := List.mem_map.mp m
  exact ⟨y, h⟩
section
variable {P : Program} {w : World} {K : PySem.W.Frag} {mg : Str → Option Value} {base : Heap} {f fI : Addr} {fd : FuncData} {C : Kd}
def spPen (K : PySem.W.Frag) : Sp := fun vs H Q _ => ∃ (l : Addr) (ns : List Int), vs = [.ref l] ∧ SqL K H l (ns.map V.int) ∧ ∀ p l' H', Same H H' → PenAt H' p l' 0 → H p = none → Q (.ref p) H'
theorem sc_L_pen : FnScope n_L_pen p_L_pen (defScope s_L_pen) := ⟨rfl, rfl, rfl, by decide +kernel, rfl, by decide +kernel, by decide +kernel⟩
theorem ok_L_pen (B : Blt mg) (F : FnDf K "_law_pen" "_law_pen" s_L_pen f fd) : FnOk P w K mg base CX0 1 f fd p_L_pen (spPen K) := by
  refine F.ok sc_L_pen (fun vs H Q E h => ?_) (fun cdv A outer s H vs Q E hr h => ?_)
  · obtain ⟨l, ns, rfl, _⟩ := h; rfl
  · obtain ⟨l, ns, rfl, hl, q⟩ := h
    have hu := hu_of hr
    have n := sc_L_pen.nd
    refine ⟨_, PSs.nox (pss_one (ps_ret (pe_lst (pa_cons (pe_callTy call_list_of (by rfl) B.list (by decide +kernel) (pa_cons (pe_slice sl_list (pv 0) po_none (po_some pe_int)) pa_nil)) (pa_cons pe_int (pa_cons pe_int pa_nil)))))), ?_⟩
    refine ⟨_, rfl, _, rfl, l, _, rfl, hl, fun a1 n1 => ⟨a1, _, rfl, .inl (SqL.of upd_same), fun a2 n2 => ⟨three_ok, fun a3 n3 => ?_⟩⟩⟩
    have s1 := same_new (o := .lst (cutV (ns.map V.int) none (some 63))) n1
    have s2 := same_new (o := .lst (cutV (ns.map V.int) none (some 63))) n2
    have s3 := same_new (o := .lst [.ref a2, .int 0, .int 0]) n3
    have e : cutV (ns.map V.int) none (some 63) = (ns.take 63).map V.int := by
      unfold cutV
      rw [HT.sIx_none, show (some (63 : Int)) = some ((63 : Nat) : Int) from rfl, HT.sIx_nat, List.drop_zero, Nat.sub_zero, List.map_take]
      exact List.take_eq_take_iff.mpr (by omega)
    refine q a3 a2 _ (s1.trans (s2.trans s3)) ⟨ns.take 63, 0, 0, upd_same, ?_, ?_, ?_, Nat.le_refl _, Int.le_refl _⟩ (same_free (s1.trans s2) n3)
    · intro z; rw [z, upd_same] at n3; cases n3
    · rw [← e]; exact s3 _ _ upd_same
    · rw [List.length_take]; omega
def spDraw : Sp := fun vs H Q _ => ∃ p l n, ∃ many : Int, vs = [.ref p, .int many] ∧ PenAt H p l n ∧ n ≤ 100000 ∧ 0 < many ∧ many ≤ 100000 ∧ ∀ d H', 0 ≤ d → d < many → PenAt H' p l (n + 1) → But p H H' → Q (.int d) H'
theorem sc_L_draw : FnScope n_L_draw p_L_draw (defScope s_L_draw) := ⟨rfl, rfl, rfl, by decide +kernel, rfl, by decide +kernel, by decide +kernel⟩
theorem ok_L_draw (B : Blt mg) (F : FnDf K "_law_draw" "_law_draw" s_L_draw f fd) : FnOk P w K mg base CX0 1 f fd p_L_draw spDraw := by
  refine F.ok sc_L_draw (fun vs H Q E h => ?_) (fun cdv A outer s H vs Q E hr h => ?_)
  · obtain ⟨p, l, n, many, rfl, _⟩ := h; rfl
  · obtain ⟨p, l, m, many, rfl, hp, hm, m0, m1, q⟩ := h
    have hu := hu_of hr
    have n := sc_L_draw.nd
    refine ⟨_, PSs.nox (pss_ct (ps_if (pt_cmpR op_gt (pe_ix ix_list (pv 0) pe_int (fun _ _ => rfl)) pe_int (nomark _))
        (pss_cons (ps_set (i := 2) n rfl (.inl rfl) (pe_op op_mod (pe_callTy call_int1 (by rfl) B.int (by decide +kernel) (pa_cons (pe_ix ix_list (pv 0) pe_int (fun _ _ => rfl)) pa_nil)) (pv 1)))
          (pss_cons (ps_asg (pe_op op_fdiv (pe_callTy call_int1 (by rfl) B.int (by decide +kernel) (pa_cons (pe_ix ix_list (pv 0) pe_int (fun _ _ => rfl)) pa_nil)) (pv 1)) (pg_sub (pv 0) pe_int set_list))
          (pss_one (ps_ret (pv 2)))))
        pss_nil)
      (pss_cons (ps_set (i := 3) n rfl (.inl rfl) (pe_ix ix_list (pv 0) pe_int (fun _ _ => rfl)))
      (pss_cons (ps_asg (pe_op op_add (pv 3) pe_int) (pg_sub (pv 0) pe_int set_list))
      (pss_cons (ps_set (i := 4) n rfl (.inl rfl) (pe_op op_add (pe_op op_mul pe_int (pv 3)) pe_int))
      (pss_ct (ps_if (pt_cmpR (op_neD hr.units) (pe_ix ix_list (pv 0) pe_int (fun _ _ => rfl)) (pe_lst pa_nil) (nomark _))
        (pss_one (ps_set (i := 4) n rfl (.inl rfl) (pe_ix ix_list (pe_ix ix_list (pv 0) pe_int (fun _ _ => rfl)) (pe_op op_mod (pe_callTy call_int1 (by rfl) B.int (by decide +kernel) (pa_cons (pv 3) pa_nil)) (pe_callB call_len_seq (by rfl) B.len (by decide +kernel) (pa_cons (pe_ix ix_list (pv 0) pe_int (fun _ _ => rfl)) pa_nil))) (fun _ _ => rfl))))
        pss_nil)
      (pss_ct (ps_if (PW.pt (pw_and (pt_cmpR op_lt (pv 3) (pe_callB call_len_seq (by rfl) B.len (by decide +kernel) (pa_cons (pe_ix ix_list (pv 0) pe_int (fun _ _ => rfl)) pa_nil)) (nomark _)) (pw_and1 (pt_cmpR op_ge (pe_callB call_abs (by rfl) B.abs (by decide +kernel) (pa_cons (pv 4) pa_nil)) (pe_op op_pow pe_int pe_int) (nomark _)))))
        (pss_cons (ps_set (i := 5) n rfl (.inl rfl) (pe_op op_add (pe_op op_mul pe_int (pe_op op_sub (pe_callB call_abs (by rfl) B.abs (by decide +kernel) (pa_cons (pv 4) pa_nil)) (pe_op op_pow pe_int pe_int))) (pe_callTy call_int1 (by rfl) B.int (by decide +kernel) (pa_cons (pe_cmpR op_lt (pv 4) pe_int (nomark _)) pa_nil))))
          (pss_cons (ps_asg (pe_op op_fdiv (pe_callTy call_int1 (by rfl) B.int (by decide +kernel) (pa_cons (pv 5) pa_nil)) (pv 1)) (pg_sub (pv 0) pe_int set_list))
          (pss_one (ps_ret (pe_op op_mod (pe_callTy call_int1 (by rfl) B.int (by decide +kernel) (pa_cons (pv 5) pa_nil)) (pv 1))))))
        pss_nil)
      (pss_cons (ps_set (i := 6) n rfl (.inl rfl) (pe_op op_mod (pe_callTy call_int1 (by rfl) B.int (by decide +kernel) (pa_cons (pe_op op_pow (pe_op op_add (pe_op op_add (pe_op op_mod (pe_callTy call_int1 (by rfl) B.int (by decide +kernel) (pa_cons (pv 4) pa_nil)) pe_int) (pe_op op_mul pe_int (pv 3))) pe_int) pe_int) pa_nil)) pe_int))
      (pss_cons (ps_set (i := 6) n rfl (.inl rfl) (pe_op op_mod (pe_callTy call_int1 (by rfl) B.int (by decide +kernel) (pa_cons (pe_op op_pow (pe_op op_add (pe_op op_add (pe_op op_mul (pv 6) (pe_op op_add (pe_op op_mul pe_int (pv 3)) pe_int)) (pe_op op_mul (pe_op op_mul pe_int (pv 3)) (pv 3))) pe_int) pe_int) pa_nil)) pe_int))
      (pss_one (ps_ret (pe_op op_mod (pe_callTy call_int1 (by rfl) B.int (by decide +kernel) (pa_cons (pe_op op_fdiv (pv 6) pe_int) pa_nil)) (pv 1)))))))))))), ?_⟩
    obtain ⟨cs, a, g, h1, h2, h3, h4, h5, h6⟩ := hp
    refine ⟨fun σ' H' => σ' = [some (.ref p), some (.int many), none, none, none, none, none] ∧ H' = H, ?_, ?_⟩
    · refine u_if ⟨_, rfl, p, _, _, _, rfl, rfl, SqL.of h1, rfl, _, _, rfl, rfl, _, rfl, ?_⟩
      by_cases hg : 0 < g
      · refine ift (decide_eq_true hg) ?_
        refine ⟨_, rfl, p, _, _, _, rfl, rfl, SqL.of h1, rfl, .inl ⟨_, rfl, _, rfl, _, _, rfl, rfl, m0, ?_⟩⟩
        refine ⟨_, rfl, p, _, _, _, rfl, rfl, SqL.of h1, rfl, .inl ⟨_, rfl, _, rfl, _, _, rfl, rfl, ⟨m0, by omega⟩, ?_⟩⟩
        refine ⟨_, rfl, p, _, _, 2, rfl, rfl, h1, rfl, _, rfl, ?_⟩
        refine q _ _ (Int.emod_nonneg _ (by omega)) (Int.emod_lt_of_pos _ m0) (PenAt.set h2 h3 h4 (by omega) (Int.ediv_nonneg h6 (by omega))) But.upd
      · exact iff0 (decide_eq_false hg) ⟨rfl, rfl⟩
    · rintro σ1 H1 ⟨rfl, rfl⟩
      refine ⟨_, rfl, p, _, _, _, rfl, rfl, SqL.of h1, rfl, ?_⟩
      refine ⟨_, rfl, _, _, rfl, rfl, _, rfl, p, _, _, 1, rfl, rfl, h1, rfl, ?_⟩
      generalize hH2 : L2.upd H1 p (HO.lst (List.set _ _ _)) = H2
      have h1' : H2 p = some (.lst [.ref l, .int ((a : Int) + 1), .int g]) := by rw [← hH2, upd_same]; rfl
      have h3' : H2 l = some (.lst (cs.map V.int)) := by rw [← hH2, upd_ne h2]; exact h3
      have hb : But p H1 H2 := hH2 ▸ But.upd
      refine ⟨_, rfl, _, _, rfl, rfl, .inl ⟨by decide, by decide⟩, _, _, rfl, rfl, ?_⟩
      refine ⟨fun σ' H' => ∃ cell : Int, σ' = [some (.ref p), some (.int many), none, some (.int a), some (.int cell), none, none] ∧ Same H2 H', ?_, ?_⟩
      · refine u_if ⟨_, rfl, p, _, _, _, rfl, rfl, SqL.of h1', rfl, by rw [sizeLine_eq]; decide, fun a1 n1 => ?_⟩
        have s1 : Same H2 (L2.upd H2 a1 (.lst [])) := same_new n1
        have e1 : l ≠ a1 := fun z => by rw [← z, h3'] at n1; cases n1
        refine ⟨_, _, .lst (SqL.of (s1 _ _ h3')) (dpInts cs), .lst (SqL.of upd_same) .nil, shaped_ints cs, rfl, ?_⟩
        rw [eqv_nil]
        refine ⟨_, rfl, ?_⟩
        by_cases hc : cs = []
        · exact iff0 (by rw [decide_eq_true hc]; rfl) ⟨_, rfl, s1⟩
        · have lc : 0 < cs.length := List.length_pos_iff.mpr hc
          refine ift (by rw [decide_eq_false hc]; rfl) ?_
          have lm : ((a : Int) % (cs.map V.int).length) < cs.length := by rw [List.length_map]; exact Int.emod_lt_of_pos _ (by omega)
          obtain ⟨cell, hcell⟩ := atI_ints (ns := cs) (i := (a : Int) % (cs.map V.int).length) (Int.emod_nonneg _ (by rw [List.length_map]; omega)) lm
          refine ⟨_, rfl, p, _, _, _, rfl, rfl, SqL.of (s1 _ _ h1'), rfl, _, rfl, .inl ⟨_, rfl, _, rfl, p, _, _, _, rfl, rfl, SqL.of (s1 _ _ h1'), rfl, l, _, rfl, .inl (SqL.of (s1 _ _ h3')), ?_⟩⟩
          refine ⟨_, _, rfl, rfl, by rw [List.length_map]; omega, l, _, _, _, rfl, rfl, SqL.of (s1 _ _ h3'), hcell, cell, rfl, s1⟩
      rintro σ3 H3 ⟨cell, rfl, s3⟩
      have h13 := s3 _ _ h1'
      have h33 := s3 _ _ h3'
      have p3 : ∀ g' : Int, 0 ≤ g' → PenAt (L2.upd H3 p (.lst [.ref l, .int ((a : Int) + 1), .int g'])) p l (m + 1) := fun g' hg => PenAt.set (a := a + 1) h2 h33 h4 (by omega) hg
      refine ⟨fun σ' H' => ∃ x, σ' = [some (.ref p), some (.int many), none, some (.int a), some (.int cell), x, none] ∧ H' = H3, ?_, ?_⟩
      · refine u_if (u_and (u_B ?_))
        refine ⟨_, rfl, _, rfl, p, _, _, _, rfl, rfl, SqL.of h13, rfl, l, _, rfl, .inl (SqL.of h33), _, _, rfl, rfl, _, rfl, ?_⟩
        refine if2 (fun _ => ?_) (fun _ => iff0 rfl ⟨_, rfl, rfl⟩)
        refine u_B ⟨_, rfl, _, rfl, _, _, rfl, rfl, ⟨by decide, by decide, by decide⟩, _, _, rfl, rfl, _, rfl, ?_⟩
        refine if2 (fun hge => ?_) (fun _ => ⟨_, rfl, rfl⟩)
        have hge : (10 : Int) ^ (18 : Int).toNat ≤ if cell < 0 then -cell else cell := of_decide_eq_true hge
        refine ⟨_, rfl, _, rfl, _, _, rfl, rfl, ⟨by decide, by decide, by decide⟩, _, _, rfl, rfl, _, _, rfl, rfl, .inl ⟨by decide, by decide⟩, _, rfl, _, _, rfl, rfl, .inr ⟨_, rfl, _, _, rfl, rfl, ?_⟩⟩
        have hb0 : (0 : Int) ≤ if decide (cell < 0) = true then 1 else 0 := by split <;> decide
        generalize (if cell < 0 then -cell else cell) = ab at hge ⊢
        generalize (if decide (cell < 0) = true then (1 : Int) else 0) = bb at hb0 ⊢
        generalize (10 : Int) ^ (18 : Int).toNat = tt at hge ⊢
        have hgr : 0 ≤ 2 * (ab - tt) + bb := by omega
        refine ⟨_, rfl, .inl ⟨_, rfl, _, rfl, _, _, rfl, rfl, ⟨m0, by omega⟩, _, rfl, p, _, _, 2, rfl, rfl, h13, rfl, _, rfl, .inl ⟨_, rfl, _, rfl, _, _, rfl, rfl, m0, ?_⟩⟩⟩
        exact q _ _ (Int.emod_nonneg _ (by omega)) (Int.emod_lt_of_pos _ m0) (p3 _ (Int.ediv_nonneg hgr (by omega))) ((hb.trans (But.of s3)).trans But.upd)
      rintro σ4 H4 ⟨x, rfl, rfl⟩
      have a5 : (a : Int) ≤ 100000 := by omega
      have a0 : (0 : Int) ≤ a := by omega
      have c0 : 0 ≤ cell % 2147483549 := Int.emod_nonneg _ (by decide)
      have c1 : cell % 2147483549 < 2147483549 := Int.emod_lt_of_pos _ (by decide)
      refine ⟨_, rfl, .inl ⟨_, rfl, _, _, rfl, rfl, (by decide : (0 : Int) < 2147483549), _, rfl, _, _, rfl, rfl, .inl ⟨by decide, by decide⟩, _, _, rfl, rfl, _, _, rfl, rfl, _, _, rfl, rfl, ⟨by decide, by decide, by omega⟩, .inl ⟨_, rfl, _, _, rfl, rfl, (by decide : (0 : Int) < 2147483629), ?_⟩⟩⟩
      generalize (cell % 2147483549 + 90271 * (a : Int) + 113) ^ (5 : Int).toNat = pw
      have d0 : 0 ≤ pw % 2147483629 := Int.emod_nonneg _ (by decide)
      have d1 : pw % 2147483629 < 2147483629 := Int.emod_lt_of_pos _ (by decide)
      have t0 : 0 ≤ (pw % 2147483629) * (2 * (a : Int) + 71) := Int.mul_nonneg d0 (by omega)
      have t1 : (pw % 2147483629) * (2 * (a : Int) + 71) ≤ 2147483629 * 200071 := Int.mul_le_mul (by omega) (by omega) (by omega) (by decide)
      have u0 : 0 ≤ 88261 * (a : Int) * a := Int.mul_nonneg (by omega) a0
      have u1 : 88261 * (a : Int) * a ≤ 8826100000 * 100000 := Int.mul_le_mul (by omega) a5 a0 (by decide)
      refine ⟨_, rfl, _, rfl, _, _, rfl, rfl, .inl ⟨by decide, by decide⟩, _, _, rfl, rfl, _, _, rfl, rfl, .inl ⟨by omega, by omega⟩, _, rfl, _, _, rfl, rfl, .inl ⟨by decide, by decide⟩, _, rfl, _, _, rfl, rfl, .inl ⟨by omega, by omega⟩, _, _, rfl, rfl, _, _, rfl, rfl, _, _, rfl, rfl, ⟨by decide, by decide, by omega⟩, .inl ⟨_, rfl, _, _, rfl, rfl, (by decide : (0 : Int) < 2147483587), ?_⟩⟩
      refine ⟨_, rfl, _, _, rfl, rfl, ⟨by decide, by decide⟩, .inl ⟨_, rfl, _, rfl, _, _, rfl, rfl, m0, ?_⟩⟩
      refine q _ _ (Int.emod_nonneg _ (by omega)) (Int.emod_lt_of_pos _ m0) ?_ (hb.trans (But.of s3))
      exact ⟨cs, a + 1, g, h13, h2, h33, h4, by omega, h6⟩
end
end KD
set_option Elab.async false
set_option linter.all false
set_option maxRecDepth 100000
set_option maxHeartbeats 4000000
namespace KD
open PySem PySem.Spec PyProof.Rows L2 KT KR
theorem lets_list : lets.cps.toList = List.range' 97 26 := by decide +kernel
theorem lets_at {i : Int} (h0 : 0 ≤ i) (h1 : i < 26) : atI lets.cps.toList i = some (97 + i.toNat) := by
  rw [lets_list]
  unfold atI ixN
  rw [if_pos h0, List.length_range', if_pos (by omega)]
  show (List.range' 97 26)[i.toNat]? = _
  rw [List.getElem?_range' (by omega)]
  simp
theorem lets_mem {i : Nat} (h : i < 26) : 97 + i ∈ lets.cps.toList := by
  rw [lets_list, List.mem_range']
  exact ⟨i, h, by omega⟩
def wd (b : List Nat) (s c : Nat) : Str := ⟨(b.take s ++ [c] ++ b.drop s).toArray⟩
def barW : Str := "byte size align place end packed and or not yes no for nogap notail leaf"
theorem bar_split : Txt.split barW " " = barL := by decide +kernel
def nm1 (b : List Nat) (s c : Nat) : Str := wd b s c ++ (if inV (.str (wd b s c)) (barL.map V.str) = true then ("q" : Str) else Str.empty)
theorem wd_len {b : List Nat} {s c : Nat} : (wd b s c).length = b.length + 1 := by
  show (b.take s ++ [c] ++ b.drop s).toArray.size = _
  simp
  omega
theorem wd_inj {b : List Nat} {s c d : Nat} (e : wd b s c = wd b s d) : c = d := by
  unfold wd at e
  injection e with e
  have e := congrArg Array.toList e
  simp at e
  exact e
theorem q_len : ("q" : Str).length = 1 := by decide +kernel
theorem nm1_len {b : List Nat} {s c : Nat} : (nm1 b s c).length = b.length + 1 ∨ (nm1 b s c).length = b.length + 2 := by
  unfold nm1
  rw [str_len, wd_len]
  split
  · rw [q_len]; exact .inr rfl
  · exact .inl rfl
theorem app_inj {x y z : Str} (e : x ++ z = y ++ z) : x = y := by
  obtain ⟨x⟩ := x
  obtain ⟨y⟩ := y
  obtain ⟨z⟩ := z
  have e : (⟨x ++ z⟩ : Str) = ⟨y ++ z⟩ := e
  injection e with e
  exact congrArg Str.mk (Array.append_left_inj z |>.mp e)
theorem nm1_inj {b : List Nat} {s c d : Nat} (e : nm1 b s c = nm1 b s d) : c = d := by
  unfold nm1 at e
  have l := congrArg Str.length e
  rw [str_len, str_len, wd_len, wd_len] at l
  split at e
  · split at e
    · exact wd_inj (app_inj e)
    · rename_i h1 h2
      rw [if_pos h1, if_neg h2, q_len] at l
      exact absurd l (by show ¬ (_ + 1 = _ + 0); omega)
  · split at e
    · rename_i h1 h2
      rw [if_neg h1, if_pos h2, q_len] at l
      exact absurd l (by show ¬ (_ + 0 = _ + 1); omega)
    · exact wd_inj (app_inj e)
theorem barq : (barL.all fun x => !inV (.str (x ++ ("q" : Str))) (barL.map V.str)) = true := by decide +kernel
theorem app_nil (x : Str) : x ++ Str.empty = x := by
  obtain ⟨x⟩ := x
  show (⟨x ++ #[]⟩ : Str) = ⟨x⟩
  rw [Array.append_empty]
theorem inV_of {x : Str} {l : List Str} (h : inV (.str x) (l.map V.str) = true) : x ∈ l := by
  by_cases q : x ∈ l
  · exact q
  · rw [inV_str q] at h; cases h
theorem nm1_gd {b : List Nat} {s c : Nat} (hb : ∀ x ∈ b, x ∈ lets.cps.toList) (hl : b.length ≤ 6) (hc : c ∈ lets.cps.toList) : GdName (nm1 b s c) := by
  refine ⟨?_, ?_, ?_, ?_⟩
  · rcases nm1_len (b := b) (s := s) (c := c) with h | h <;> omega
  · rcases nm1_len (b := b) (s := s) (c := c) with h | h <;> omega
  · unfold nm1
    split
    · rename_i h
      have := List.all_eq_true.mp barq _ (inV_of h)
      simpa using this
    · rename_i h
      rw [app_nil]
      simpa using h
  · intro x hx
    have hw : ∀ x ∈ (wd b s c).cps.toList, x ∈ lets.cps.toList := fun x hx => by
      unfold wd at hx
      simp at hx
      rcases hx with h | h | h
      · exact hb x (List.mem_of_mem_take h)
      · rw [h]; exact hc
      · exact hb x (List.mem_of_mem_drop h)
    have ha : (nm1 b s c).cps.toList = (wd b s c).cps.toList ++ (if inV (.str (wd b s c)) (barL.map V.str) = true then ("q" : Str) else Str.empty).cps.toList := by
      show ((wd b s c).cps ++ _).toList = _
      rw [Array.toList_append]
    rw [ha] at hx
    rcases List.mem_append.mp hx with h | h
    · exact hw x h
    · split at h
      · have e : ("q" : Str).cps.toList = [113] := by decide +kernel
        rw [e] at h
        rw [List.mem_singleton.mp h, lets_list]; decide
      · cases h
/-- the k-th name -/
def nmAt (b : List Nat) (s : Nat) (f : Int) (k : Nat) : Str := nm1 b s (97 + ((f + 9 * (k : Int)) % 26).toNat)
theorem nmAt_gd {b : List Nat} {s k : Nat} {f : Int} (hb : ∀ x ∈ b, x ∈ lets.cps.toList) (hl : b.length ≤ 6) : GdName (nmAt b s f k) :=
  nm1_gd hb hl (lets_mem (by have := Int.emod_lt_of_pos (f + 9 * (k : Int)) (b := 26) (by decide); have := Int.emod_nonneg (f + 9 * (k : Int)) (b := 26) (by decide); omega))
theorem nmAt_nd {b : List Nat} {s : Nat} {f : Int} : ∀ m ≤ 3, ((List.range m).map (nmAt b s f)).Nodup := by
  intro m hm
  unfold List.Nodup
  rw [List.pairwise_map]
  refine List.Pairwise.imp_of_mem (R := (· < ·)) ?_ List.pairwise_lt_range
  intro a b ha hb hab e
  have e := nm1_inj e
  rw [List.mem_range] at ha hb
  omega
/-- the cuts -/
theorem cut_to_s (z : Str) {k : Int} (h0 : 0 ≤ k) (h1 : k ≤ z.length) : (cutS z none (some k)).cps.toList = z.cps.toList.take k.toNat := by
  obtain ⟨n, rfl⟩ : ∃ n : Nat, k = n := ⟨k.toNat, by omega⟩
  unfold cutS
  rw [HT.sIx_none, HT.sIx_nat, List.drop_zero, Nat.sub_zero, Nat.min_eq_left (by omega)]
  simp
theorem cut_fr_s (z : Str) {k : Int} (h0 : 0 ≤ k) (h1 : k ≤ z.length) : (cutS z (some k) none).cps.toList = z.cps.toList.drop k.toNat := by
  obtain ⟨n, rfl⟩ : ∃ n : Nat, k = n := ⟨k.toNat, by omega⟩
  unfold cutS
  rw [HT.sIx_none, HT.sIx_nat, Nat.min_eq_left (by omega)]
  simp
  have : (List.drop n z.cps.toList).length = z.length - n := by rw [List.length_drop]; rfl
  rw [← this, List.take_length]
theorem wd_cut (z : Str) {k : Int} {c : Nat} (h0 : 0 ≤ k) (h1 : k ≤ z.length) : cutS z none (some k) ++ (⟨#[c]⟩ : Str) ++ cutS z (some k) none = wd z.cps.toList k.toNat c := by
  have e : ∀ x y : Str, (x ++ y).cps.toList = x.cps.toList ++ y.cps.toList := fun x y => Array.toList_append
  have h : (cutS z none (some k) ++ (⟨#[c]⟩ : Str) ++ cutS z (some k) none).cps.toList = (wd z.cps.toList k.toNat c).cps.toList := by
    rw [e, e, cut_to_s z h0 h1, cut_fr_s z h0 h1]
    unfold wd
    simp
  generalize cutS z none (some k) ++ (⟨#[c]⟩ : Str) ++ cutS z (some k) none = u at h
  generalize wd z.cps.toList k.toNat c = v at h
  obtain ⟨u⟩ := u
  obtain ⟨v⟩ := v
  exact congrArg Str.mk (Array.toList_inj.mp h)
end KD
set_option Elab.async false
set_option linter.all false
set_option maxRecDepth 100000
set_option maxHeartbeats 4000000
namespace KD
open PySem PySem.Spec PyProof.Rows L2 KT KR
theorem hide_at {D a : Addr} {H : Hp} {o : HO} (h : hide D H a = some o) : H a = some o ∧ a ≠ D := by
  refine ⟨hide_same _ _ h, fun e => ?_⟩
  unfold hide at h
  rw [if_pos e] at h
  cases h
theorem at_hide {D a : Addr} {H : Hp} {o : HO} (h : H a = some o) (ne : a ≠ D) : hide D H a = some o := by rw [hide_ne ne]; exact h
theorem hide_upd_ne {D a : Addr} {H : Hp} {o : HO} (ne : a ≠ D) : hide D (upd H a o) = upd (hide D H) a o := by
  funext b
  unfold hide
  by_cases e : b = D
  · rw [if_pos e, e, upd_ne (Ne.symm ne)]; exact (if_pos rfl).symm
  · rw [if_neg e]
    by_cases e2 : b = a
    · rw [e2, upd_same, upd_same]
    · rw [upd_ne e2, upd_ne e2]; exact (if_neg e).symm
theorem hide_none {D a : Addr} {H : Hp} (h : H a = none) : hide D H a = none := by
  unfold hide; split
  · rfl
  · exact h
theorem PenAt.ne {H : Hp} {p l a : Addr} {n : Nat} (h : PenAt H p l n) (ha : H a = none) : a ≠ p := fun e => by
  obtain ⟨cs, b, g, h1, _⟩ := h
  rw [e, h1] at ha; cases ha
theorem PenAt.nl {H : Hp} {p l a : Addr} {n : Nat} (h : PenAt H p l n) (ha : H a = none) : a ≠ l := fun e => by
  obtain ⟨cs, b, g, h1, h2, h3, _⟩ := h
  rw [e, h3] at ha; cases ha
theorem PenAt.upd {H : Hp} {p l a : Addr} {n : Nat} {o : HO} (h : PenAt H p l n) (ne : a ≠ p) (nl : a ≠ l) : PenAt (L2.upd H a o) p l n := by
  obtain ⟨cs, b, g, h1, h2, h3, h4⟩ := h
  exact ⟨cs, b, g, by rw [upd_ne (Ne.symm ne)]; exact h1, h2, by rw [upd_ne (Ne.symm nl)]; exact h3, h4⟩
theorem But.mut {p a : Addr} {H H' : Hp} {o : HO} (s : But p H H') (ne : a ≠ p) (h : H a = none) : But p H (L2.upd H' a o) := by
  unfold But
  rw [hide_upd_ne ne]
  exact same_mut s (hide_none h)
theorem But.free {p a : Addr} {H H' : Hp} (s : But p H H') (ne : a ≠ p) (h : H' a = none) : H a = none := by
  have := Same.free (H := hide p H) (H' := hide p H') s (by rw [hide_ne ne]; exact h)
  rwa [hide_ne ne] at this
theorem But.get {p a : Addr} {H H' : Hp} {o : HO} (s : But p H H') (ne : a ≠ p) (h : H a = some o) : H' a = some o := (hide_at (s _ _ (at_hide h ne))).1
section
variable {P : Program} {w : World} {K : PySem.W.Frag} {mg : Str → Option Value} {base : Heap} {f fI : Addr} {fd : FuncData} {C : Kd}
def spPick : Sp := fun vs H Q _ => ∃ p l' l n xs, vs = [.ref p, .ref l] ∧ PenAt H p l' n ∧ n ≤ 100000 ∧ hide p H l = some (.lst xs) ∧ 0 < xs.length ∧ xs.length ≤ 100000 ∧ ∀ x H', x ∈ xs → PenAt H' p l' (n + 1) → But p H H' → Q x H'
theorem sc_L_pick : FnScope n_L_pick p_L_pick (defScope s_L_pick) := ⟨rfl, rfl, rfl, by decide +kernel, rfl, by decide +kernel, by decide +kernel⟩
theorem ok_L_pick (B : Blt mg) (G : Fd P w K mg base CX0 1 "_law_draw" spDraw) (F : FnDf K "_law_pick" "_law_pick" s_L_pick f fd) : FnOk P w K mg base CX0 2 f fd p_L_pick spPick := by
  refine F.ok sc_L_pick (fun vs H Q E h => ?_) (fun cdv A outer s H vs Q E hr h => ?_)
  · obtain ⟨p, l', l, n, xs, rfl, _⟩ := h; rfl
  · obtain ⟨p, l', l, m, xs, rfl, hp, hm, hl, l0, l1, q⟩ := h
    have n := sc_L_pick.nd
    refine ⟨_, PSs.nox (pss_one (ps_ret (pe_ix ix_list (pv 1) (pe_d G (hr.mono (by decide)) pass0 (pa_cons (pv 0) (pa_cons (pe_callB call_len_seq (by rfl) B.len (by decide +kernel) (pa_cons (pv 1) pa_nil)) pa_nil))) (fun _ _ => rfl)))), ?_⟩
    obtain ⟨hl1, ne⟩ := hide_at hl
    refine ⟨_, rfl, _, rfl, _, rfl, l, _, rfl, .inl (SqL.of hl1), p, l', m, _, rfl, hp, hm, by omega, by omega, fun d H' d0 d1 hp' s => ?_⟩
    obtain ⟨x, e, hx, _⟩ := atI_get d0 d1
    exact ⟨l, xs, d, x, rfl, rfl, SqL.of (hide_at (s _ _ hl)).1, e, q x H' hx hp' s⟩
def spNames : Sp := fun vs H Q _ => ∃ p pl n, ∃ m : Nat, vs = [.ref p, .int m] ∧ PenAt H p pl n ∧ n ≤ 90000 ∧ m ≤ 3 ∧ ∀ l (xs : List Str) H', PenAt H' p pl (n + 9) → But p H H' → hide p H' l = some (.lst (xs.map V.str)) → xs.length = m → (∀ x ∈ xs, GdName x) → xs.Nodup → Q (.ref l) H'
theorem sc_L_names : FnScope n_L_names p_L_names (defScope s_L_names) := ⟨rfl, rfl, rfl, by decide +kernel, rfl, by decide +kernel, by decide +kernel⟩
/-- a text times 0 or 1 -/
theorem op_times01 {X : Cx} : OpR X (binaryOp .Mult) (fun x y H Q => ∃ (a : Str) (b : Bool), x = .str a ∧ y = .int (if b then 1 else 0) ∧ Q (.str (if b = true then a else Str.empty)) H) := by
  intro pins s σ H x y v u Q I rx ry h
  obtain ⟨a, b, rfl, rfl, q⟩ := h
  obtain ⟨t, rfl⟩ := rx
  obtain ⟨t', rfl⟩ := ry
  cases b with
  | true =>
    refine SB.mul ⟨by decide, fun _ h => by simp at h, fun _ h => by simp at h⟩ fun t' k => ⟨.str _, H, I.tok _, ⟨_, rfl⟩, ?_⟩
    exact q
  | false =>
    refine SB.mul ⟨by decide, fun h => absurd (by decide) h, fun h => absurd (by decide) h⟩ fun t' k => ⟨.str _, H, I.tok _, ⟨_, rfl⟩, ?_⟩
    exact q
theorem cps_app (x y : Str) : (x ++ y).cps.toList = x.cps.toList ++ y.cps.toList := Array.toList_append
theorem join_signs : ∀ xs : List Nat, (Txt.join "" (xs.map fun c => (⟨#[c]⟩ : Str))).cps.toList = xs := by
  intro xs
  unfold Txt.join
  rw [StrLaws.glued_eq_join]
  induction xs with
  | nil => rfl
  | cons a r ih =>
    cases r with
    | nil => rfl
    | cons b t =>
      show ((⟨#[a]⟩ : Str) ++ "" ++ Str.join "" ((b :: t).map fun c => (⟨#[c]⟩ : Str))).cps.toList = _
      rw [cps_app, cps_app, ih]
      rfl
theorem sum_ones : ∀ xs : List Nat, ((xs.map fun c => (⟨#[c]⟩ : Str)).map (·.length)).sum = xs.length
  | [] => rfl
  | a :: r => by
    rw [List.map_cons, List.map_cons, List.sum_cons, sum_ones r, List.length_cons]
    show 1 + _ = _
    omega
theorem ok_L_names (B : Blt mg) (G_L_draw : Fd P w K mg base CX0 1 "_law_draw" spDraw) (G_L_pick : Fd P w K mg base CX0 2 "_law_pick" spPick) (F : FnDf K "_law_names" "_law_names" s_L_names f fd) : FnOk P w K mg base CX0 3 f fd p_L_names spNames := by
  refine F.ok sc_L_names (fun vs H Q E h => ?_) (fun cdv A outer s H vs Q E hr h => ?_)
  · obtain ⟨p, pl, n, m, rfl, _⟩ := h; rfl
  · obtain ⟨p, pl, k, m, rfl, hp, hk, m3, q⟩ := h
    have hu := hu_of hr
    have n := sc_L_names.nd
    refine ⟨_, PSs.nox (pss_cons (ps_set (i := 2) n rfl (.inr rfl) pe_str)
      (pss_cons (ps_set (i := 3) n rfl (.inl rfl) (pe_join pe_str (pe_lc (own := [("_law_k", 8)]) (g := gName 8) rfl n (pi_range1 rfl B.range (pa_cons (pe_d G_L_pick (hr.mono (by decide)) pass0 (pa_cons (pv 0) (pa_cons (pe_lst (pa_cons pe_int (pa_cons pe_int (pa_cons pe_int (pa_cons pe_int (pa_cons pe_int pa_nil)))))) pa_nil))) pa_nil)) (blkOk_by (N := n_L_names) (sc := defScope s_L_names) (by decide +kernel)) (fun _ _ _ _ _ => (pg_name (i := 8) n rfl (.inl rfl))) (fun _ _ _ _ _ => pts_nil) (fun _ _ _ _ _ => (pe_ix ix_str (pv 2) (pe_d G_L_draw (hr.mono (by decide)) pass0 (pa_cons (pv 0) (pa_cons pe_int pa_nil))) (fun _ _ => rfl))))))
      (pss_cons (ps_par (i := 4) (j := 5) rfl n rfl rfl (by decide) rfl rfl (pa_cons (pe_d G_L_draw (hr.mono (by decide)) pass0 (pa_cons (pv 0) (pa_cons (pe_op op_add (pe_callB call_len_str (by rfl) B.len (by decide +kernel) (pa_cons (pv 3) pa_nil)) pe_int) pa_nil))) (pa_cons (pe_d G_L_draw (hr.mono (by decide)) pass0 (pa_cons (pv 0) (pa_cons pe_int pa_nil))) pa_nil)) (by rfl))
      (pss_cons (ps_set (i := 6) n rfl (.inl rfl) pe_str)
      (pss_cons (ps_set (i := 7) n rfl (.inl rfl) (pe_lst pa_nil))
      (pss_cons (ps_for PassesOwn.never rfl (pi_range1 rfl B.range (pa_cons (pv 1) pa_nil)) (pg_name (i := 8) n rfl (.inl rfl))
        (pss_cons (ps_set (i := 9) n rfl (.inl rfl) (pe_op op_add_str (pe_op op_add_str (pe_slice sl_str (pv 3) po_none (po_some (pv 4))) (pe_ix ix_str (pv 2) (pe_op op_mod (pe_callTy call_int1 (by rfl) B.int (by decide +kernel) (pa_cons (pe_op op_add (pv 5) (pe_op op_mul pe_int (pv 8))) pa_nil)) pe_int) (fun _ _ => rfl))) (pe_slice sl_str (pv 3) (po_some (pv 4)) po_none)))
          (pss_one (ps_expr (pe_bm PySem.F.plainAttrs_list PySem.F.slot_list_append PySem.F.type_list_append mt_append (pv 7) (pa_cons (pe_op op_add_str (pv 9) (pe_op op_times01 pe_str (pe_callTy call_int1 (by rfl) B.int (by decide +kernel) (pa_cons (pe_cmpR op_in_seq (pv 9) (pe_split (pv 6) pe_str) (by rfl)) pa_nil)))) pa_nil))))))
      (pss_one (ps_ret (pv 7))))))))), ?_⟩
    refine ⟨⟨_, rfl⟩, _, rfl, by rw [sizeLine_eq]; decide, fun la hla => ?_⟩
    have ne := hp.ne hla
    have s1 := same_new (o := .lst [.int 0, .int 0, .int 1, .int 2, .int 6]) hla
    refine ⟨p, pl, la, k, _, rfl, hp.mono s1, by omega, at_hide upd_same ne, by decide, by decide, fun x H1 hx hp1 b1 => ?_⟩
    have c1 := (But.of s1).trans b1
    obtain ⟨j, rfl, j6⟩ : ∃ j : Nat, x = .int (j : Int) ∧ j ≤ 6 := by
      simp at hx
      rcases hx with rfl | rfl | rfl | rfl
      · exact ⟨0, rfl, by decide⟩
      · exact ⟨1, rfl, by decide⟩
      · exact ⟨2, rfl, by decide⟩
      · exact ⟨6, rfl, by decide⟩
    refine ⟨_, rfl, by omega, by omega, fun D hD => ?_⟩
    have neD := hp1.ne hD
    refine lp_it (walk_range (lo := 0) (n := j)) (fun i H' => ∃ xs : List Nat, xs.length = i ∧ (∀ c ∈ xs, c ∈ lets.cps.toList) ∧ PenAt H' p pl (k + 1 + i) ∧ But p H1 H' ∧ H' D = some (.lst (xs.map fun c => V.str ⟨#[c]⟩)))
      ⟨[], rfl, by simp, (hp1.mono (same_new hD)).more (by omega), But.of (same_new hD), upd_same⟩ (fun _ _ _ _ => trivial) ?_ ?_
    · rintro i x H2 H3 hi ⟨xs, lx, mx, hp2, b2, hD2⟩ ⟨rfl, rfl⟩
      refine ⟨rfl, u_yes (ift rfl ?_)⟩
      refine ⟨_, rfl, _, rfl, p, pl, _, _, rfl, hp2, by omega, by decide, by decide, fun d H4 d0 d1 hp4 b4 => ?_⟩
      have ld := lets_at d0 d1
      have neD' : D ≠ p := neD
      refine ⟨lets, d, _, rfl, rfl, by rw [sizeLine_eq]; decide +kernel, ld, _, b4.get neD' hD2, ?_, xs ++ [97 + d.toNat], ?_, ?_, (hp4.upd neD' (hp1.nl hD)).more (by omega), ?_, ?_⟩
      · rw [List.length_map, lx, sizeLine_eq]; omega
      · rw [List.length_append, lx]; rfl
      · intro c hc
        rcases List.mem_append.mp hc with h | h
        · exact mx c h
        · rw [List.mem_singleton.mp h]; exact lets_mem (by omega)
      · exact But.mut (Same.trans b2 b4) neD' hD
      · rw [upd_same, List.map_append]; rfl
    rintro H2 ⟨xs, lx, mx, hp2, b2, hD2⟩
    have c2 := c1.trans b2
    have sum1 := sum_ones xs
    refine ⟨"", D, xs.map fun c => (⟨#[c]⟩ : Str), rfl, rfl, .inl (SqL.of (by rw [List.map_map]; exact hD2)), ?_, ?_⟩
    · rw [sum1, lx]
      show _ + _ * 0 ≤ _
      omega
    have eb := join_signs xs
    generalize Txt.join "" (xs.map fun c => (⟨#[c]⟩ : Str)) = bs at eb
    have lb : bs.length = j := by
      show bs.cps.size = j
      rw [← Array.length_toList, eb, lx]
    -- the spot and the first letter
    refine ⟨_, rfl, _, rfl, bs, rfl, by rw [lb, sizeLine_eq]; omega, _, _, rfl, rfl, p, pl, _, _, rfl, hp2, by omega, by omega, by omega, fun sp H3 p0 p1 hp3 b3 => ?_⟩
    refine ⟨_, rfl, p, pl, _, _, rfl, hp3, by omega, by decide, by decide, fun fi H4 f0 f1 hp4 b4 => ⟨_, _, rfl, ?_⟩⟩
    have c4 := c2.trans (b3.trans b4)
    refine ⟨by decide, fun lf hlf => ?_⟩
    have nf := hp4.ne hlf
    have s5 := same_new (o := .lst []) hlf
    refine ⟨_, rfl, m, rfl, by omega, by omega, for_it (walk_range (lo := 0) (n := m)) (fun i σ' H' => ∃ x y, σ' = [some (.ref p), some (.int m), some (.str lets), some (.str bs), some (.int sp), some (.int fi), some (.str barW), some (.ref lf), x, y] ∧
        PenAt H' p pl (k + 3 + j) ∧ But p H4 H' ∧ H' lf = some (.lst (((List.range i).map (nmAt bs.cps.toList sp.toNat fi)).map V.str)))
      ⟨none, none, rfl, (hp4.mono s5).more (by omega), But.of s5, upd_same⟩ (fun _ _ _ _ _ => trivial) ?_ ?_⟩
    · rintro i x σ5 H5 H6 hi ⟨x1, y1, rfl, hp5, b5, h5⟩ ⟨rfl, rfl⟩
      have fm0 := Int.emod_nonneg (fi + 9 * ((0 : Int) + (i : Nat))) (b := 26) (by decide)
      have fm1 := Int.emod_lt_of_pos (fi + 9 * ((0 : Int) + (i : Nat))) (b := 26) (by decide)
      have cl := cutS_length bs none (some sp)
      have cl2 := cutS_length bs (some sp) none
      have l1 : (⟨#[97 + ((fi + 9 * ((0 : Int) + (i : Nat))) % 26).toNat]⟩ : Str).length = 1 := rfl
      refine ⟨_, rfl, _, rfl, sp, rfl, bs, rfl, by rw [lb, sizeLine_eq]; omega, _, rfl, _, rfl, _, rfl, _, _, rfl, rfl, .inl ⟨by decide, by decide⟩, _, _, rfl, rfl, .inl ⟨_, rfl, _, _, rfl, rfl, (by decide : (0 : Int) < 26), lets, _, _, rfl, rfl, by rw [sizeLine_eq]; decide +kernel, lets_at fm0 fm1, ?_⟩⟩
      refine ⟨_, _, rfl, rfl, by rw [l1, sizeLine_eq]; omega, _, rfl, _, rfl, sp, rfl, bs, rfl, by rw [lb, sizeLine_eq]; omega, _, _, rfl, rfl, by rw [str_len, l1, sizeLine_eq]; omega, ?_⟩
      rw [wd_cut bs p0 (by omega)]
      refine ⟨_, rfl, ?_, _, rfl, _, rfl, _, rfl, ⟨_, rfl⟩, barW, _, rfl, rfl, by decide +kernel, by rw [sizeLine_eq]; decide +kernel, fun sl hsl => ?_⟩
      · exact .inl ⟨rfl, _, SqL.of h5⟩
      rw [bar_split]
      have nes : lf ≠ sl := fun e => by rw [← e, h5] at hsl; cases hsl
      have ss := same_new (o := .lst (barL.map V.str)) hsl
      have nsp := hp5.ne hsl
      have lq : ∀ b : Bool, (if b = true then ("q" : Str) else Str.empty).length ≤ 1 := fun b => by cases b <;> decide +kernel
      refine ⟨sl, _, rfl, .inl (SqL.of upd_same), rfl, bar_flat, .inr ⟨_, rfl, "q", _, rfl, rfl, _, _, rfl, rfl, Nat.le_trans (Nat.add_le_add (Nat.le_of_eq wd_len) (lq _)) (by rw [eb, lx, sizeLine_eq]; omega), ?_⟩⟩
      refine ⟨lf, _, _, rfl, rfl, by rw [upd_ne nes]; exact h5, by rw [List.length_map, List.length_map, List.length_range, sizeLine_eq]; omega, ?_⟩
      refine ⟨_, _, rfl, (hp5.mono ss).upd nf (hp4.nl hlf), ?_, ?_⟩
      · exact But.mut (Same.trans b5 (But.of ss)) nf hlf
      · rw [upd_same, List.range_succ, List.map_append, List.map_append]
        have e0 : (0 : Int) + (i : Nat) = (i : Nat) := by omega
        unfold nmAt nm1
        rw [e0]
        rfl
    · rintro σ5 H5 ⟨x1, y1, rfl, hp5, b5, h5⟩
      refine ⟨_, rfl, ?_⟩
      refine q lf ((List.range m).map (nmAt bs.cps.toList sp.toNat fi)) H5 (hp5.more (by omega)) (c4.trans b5) (at_hide h5 nf) (by simp) ?_ (nmAt_nd m m3)
      intro y hy
      obtain ⟨i, _, rfl⟩ := List.mem_map.mp hy
      exact nmAt_gd (by rw [eb]; exact mx) (by rw [eb, lx]; exact j6)
end
end KD
set_option Elab.async false
set_option linter.all false
set_option maxRecDepth 100000
set_option maxHeartbeats 4000000
namespace KD
open PySem PySem.Spec PyProof.Rows L2 KT KR
/-- kinds in a list; the pen is not among them -/
def KlAt (cK : Addr) (H : Hp) (l : Addr) (kas : List Addr) (ks : List Kn) : Prop := H l = some (.lst (kas.map V.ref)) ∧ KdsAt cK H kas ks
theorem KlAt.mono {cK : Addr} {H H' : Hp} {l : Addr} {kas : List Addr} {ks : List Kn} (s : Same H H') (h : KlAt cK H l kas ks) : KlAt cK H' l kas ks := ⟨s _ _ h.1, h.2.mono s⟩
theorem hide_hide {D p : Addr} {H : Hp} : hide D (hide p H) = hide p (hide D H) := by
  funext b
  unfold hide
  split <;> split <;> rfl
section
variable {P : Program} {w : World} {K : PySem.W.Frag} {mg : Str → Option Value} {base : Heap} {f fI : Addr} {fd : FuncData} {C : Kd}
def spLKinds (cK : Addr) : Sp := fun vs H Q _ => ∃ p pl n, ∃ m : Nat, vs = [.ref p, .int m] ∧ PenAt H p pl n ∧ n ≤ 80000 ∧ 1 ≤ m ∧ m ≤ 3 ∧ ∀ l kas ks H', PenAt H' p pl (n + 12) → But p H H' → KlAt cK (hide p H') l kas ks → KsOk ks → (∀ k ∈ ks, k.2 ≠ 4) → Q (.ref l) H'
theorem sc_L_kinds : FnScope n_L_kinds p_L_kinds (defScope s_L_kinds) := ⟨rfl, rfl, rfl, by decide +kernel, rfl, by decide +kernel, by decide +kernel⟩
theorem ok_L_kinds (T : KdOk K mg C) (G_L_names : Fd P w K mg base CX0 3 "_law_names" spNames) (G_L_pick : Fd P w K mg base CX0 2 "_law_pick" spPick) (M : Mk K C.kind fI) (FI : FnR P w K mg base CX0 4 fI (spKI C.kind)) (F : FnDf K "_law_kinds" "_law_kinds" s_L_kinds f fd) :
    FnOk P w K mg base CX0 6 f fd p_L_kinds (spLKinds C.kind) := by
  refine F.ok sc_L_kinds (fun vs H Q E h => ?_) (fun cdv A outer s H vs Q E hr h => ?_)
  · obtain ⟨p, pl, n, m, rfl, _⟩ := h; rfl
  · obtain ⟨p, pl, k, m, rfl, hp, hk, m1, m3, q⟩ := h
    have hu := hu_of hr
    have n := sc_L_kinds.nd
    refine ⟨_, PSs.nox (pss_one (ps_ret (pe_lc (own := [("_law_name", 2)]) (g := gName 2) rfl n (pi_list (pe_d G_L_names (hr.mono (by decide)) pass0 (pa_cons (pv 0) (pa_cons (pv 1) pa_nil)))) (blkOk_by (N := n_L_kinds) (sc := defScope s_L_kinds) (by decide +kernel)) (fun _ _ _ _ _ => (pg_name (i := 2) n rfl (.inl rfl))) (fun _ _ _ _ _ => pts_nil) (fun _ _ _ _ _ => (StX.pe_makeR M FI (hr.mono (by decide)) rfl T.gKind pass0 (pa_cons (pv 2) (pa_cons (pe_d G_L_pick (hr.mono (by decide)) pass0 (pa_cons (pv 0) (pa_cons (pe_lst (pa_cons pe_int (pa_cons pe_int (pa_cons pe_int (pa_cons pe_int (pa_cons pe_int (pa_cons pe_int pa_nil))))))) pa_nil))) pa_nil))))))), ?_⟩
    refine ⟨_, rfl, _, rfl, p, pl, k, m, rfl, hp, by omega, m3, fun l xs H1 hp1 b1 hl lx gx ndx => ?_⟩
    have hl1 := (hide_at hl).1
    refine ⟨l, rfl, ⟨_, SqL.of hl1⟩, fun D hD => ?_⟩
    have neD := hp1.ne hD
    have nlD := hp1.nl hD
    refine lp_it (walk_list (xs := xs.map V.str)) (fun i H' => PenAt H' p pl (k + 9 + i) ∧ But p H1 H' ∧ ∃ kas ks, H' D = some (.lst (kas.map V.ref)) ∧ KdsAt C.kind (hide D (hide p H')) kas ks ∧ ks.map (·.1) = xs.take i ∧ ∀ k ∈ ks, 1 ≤ k.2 ∧ k.2 ≤ 8 ∧ k.2 ≠ 4)
      ⟨(hp1.mono (same_new hD)).more (by omega), But.of (same_new hD), [], [], upd_same, .nil, by simp, by simp⟩ (fun i H' _ h => SqL.of (hide_at (h.2.1 _ _ hl)).1) ?_ ?_
    · rintro i x0 H2 H3 hi ⟨hp2, b2, kas, ks, h2, k2, e2, t2⟩ ⟨rfl, hx⟩
      obtain ⟨x, hx1, rfl⟩ := get_map hx
      have hi3 : i < 3 := by rw [List.length_map] at hi; omega
      refine ⟨rfl, u_yes (ift rfl ?_)⟩
      refine ⟨_, rfl, _, rfl, by rw [sizeLine_eq]; decide, fun la hla => ?_⟩
      have ne := hp2.ne hla
      have s3 := same_new (o := .lst [.int 1, .int 1, .int 1, .int 2, .int 3, .int 8]) hla
      refine ⟨p, pl, la, _, _, rfl, hp2.mono s3, by omega, at_hide upd_same ne, by decide, by decide, fun x4 H4 hx4 hp4 b4 => ?_⟩
      have b24 : But p H3 H4 := (But.of s3).trans b4
      obtain ⟨t, rfl, t0, t8, t4⟩ : ∃ t : Int, x4 = .int t ∧ 1 ≤ t ∧ t ≤ 8 ∧ t ≠ 4 := by
        simp at hx4
        rcases hx4 with rfl | rfl | rfl | rfl <;> exact ⟨_, rfl, by decide, by decide, by decide⟩
      intro a dx ha hdx nad
      have sa1 : Same H4 (upd H4 dx (.own a)) := same_new hdx
      have na1 : upd H4 dx (.own a) a = none := by rw [upd_ne (Ne.symm nad)]; exact ha
      refine ⟨a, dx, x, t, rfl, upd_same, gx x (mem_get hx1), t0, t8, fun H5 s5 k5 => ⟨rfl, ?_⟩⟩
      have s45 : Same H4 H5 := fun b o hb => s5 _ _ (by
        rw [hide_ne (ne_of_none hb ha), upd_ne (ne_of_none hb ha)]
        exact sa1 _ _ hb)
      have b25 : But p H3 H5 := Same.trans b24 (But.of s45)
      have h4D := b24.get neD h2
      have h5D := s45 _ _ h4D
      have aD : a ≠ D := ne_fresh h4D ha
      have ap : a ≠ p := hp4.ne ha
      have len := k2.length
      have lks : ks.length ≤ 3 := by
        have := congrArg List.length e2
        rw [List.length_map, List.length_take] at this
        omega
      refine ⟨_, h5D, by rw [List.length_map, len, sizeLine_eq]; omega, ((hp4.mono s45).upd neD nlD).more (by omega), But.mut (Same.trans b2 b25) neD hD, kas ++ [a], ks ++ [(x, t)], ?_, ?_, ?_, ?_⟩
      · rw [upd_same, List.map_append]; rfl
      · rw [hide_upd_ne neD, hide_upd]
        refine Paired.app (k2.mono (hide_mono b25)) (.cons ?_ .nil)
        obtain ⟨dx5, e5⟩ := k5
        exact ⟨dx5, by rw [hide_ne aD, hide_ne ap]; exact e5⟩
      · rw [List.map_append, e2, take_get hx1]; rfl
      · intro kk hkk
        rcases List.mem_append.mp hkk with h | h
        · exact t2 kk h
        · rw [List.mem_singleton.mp h]; exact ⟨t0, t8, t4⟩
    · rintro H2 ⟨hp2, b2, kas, ks, h2, k2, e2, t2⟩
      rw [List.length_map, List.take_length] at e2
      have lks : ks.length = m := by rw [← lx, ← e2, List.length_map]
      refine q D kas ks H2 (hp2.more (by rw [List.length_map]; omega)) (Same.trans b1 b2) ⟨at_hide h2 neD, k2.mono hide_same⟩ ⟨by omega, by omega, fun kk hkk => gx _ (by rw [← e2]; exact List.mem_map_of_mem hkk), fun kk hkk => ⟨(t2 kk hkk).1, (t2 kk hkk).2.1⟩, by rw [e2]; exact ndx⟩ (fun kk hkk => (t2 kk hkk).2.2)
end
end KD
set_option Elab.async false
set_option linter.all false
set_option maxRecDepth 100000
set_option maxHeartbeats 4000000
namespace KD
open PySem PySem.Spec PyProof.Rows L2 KT KR
theorem KdAt.flds {cK : Addr} {H : Hp} {a : Addr} {k : Kn} (h : KdAt cK H a k) : ∃ dx, H a = some (.ins cK dx [("depth", .int 0), ("name", .str k.1), ("times", .int k.2)]) := h
section
variable {P : Program} {w : World} {K : PySem.W.Frag} {mg : Str → Option Value} {base : Heap} {f fI : Addr} {fd : FuncData} {C : Kd}
def spLScales (cK : Addr) : Sp := fun vs H Q _ => ∃ l kas ks, vs = [.ref l] ∧ KlAt cK H l kas ks ∧ KsOk ks ∧ ∀ r H', Same H H' → H' r = some (.lst ((scl ks).map V.str)) → H r = none → Q (.ref r) H'
theorem sc_L_scales : FnScope n_L_scales p_L_scales (defScope s_L_scales) := ⟨rfl, rfl, rfl, by decide +kernel, rfl, by decide +kernel, by decide +kernel⟩
theorem ok_L_scales (T : KdOk K mg C) (F : FnDf K "_law_scales" "_law_scales" s_L_scales f fd) : FnOk P w K mg base CX0 1 f fd p_L_scales (spLScales C.kind) := by
  refine F.ok sc_L_scales (fun vs H Q E h => ?_) (fun cdv A outer s H vs Q E hr h => ?_)
  · obtain ⟨l, kas, ks, rfl, _⟩ := h; rfl
  · obtain ⟨l, kas, ks, rfl, ⟨hl, hk⟩, ok, q⟩ := h
    have hu := hu_of hr
    have n := sc_L_scales.nd
    refine ⟨_, PSs.nox (pss_cons (ps_set (i := 1) n rfl (.inl rfl) (pe_lst pa_nil))
      (pss_cons (ps_for PassesOwn.never rfl (pi_list (pv 0)) (pg_name (i := 2) n rfl (.inl rfl))
        (pss_one (ps_set (i := 1) n rfl (.inl rfl) (pe_op op_cat (pv 1) (pe_lst (pa_cons (pe_op op_add_str pe_str (pe_fld (pv 2) rfl)) (pa_cons (pe_op op_add_str pe_str (pe_fld (pv 2) rfl)) pa_nil)))))))
      (pss_one (ps_ret (pv 1))))), ?_⟩
    refine ⟨by decide, fun r0 hr0 => ?_⟩
    have s0 := same_new (o := .lst []) hr0
    have lk := hk.length
    have k3 := ok.le
    refine ⟨_, rfl, l, rfl, ⟨_, SqL.of (s0 _ _ hl)⟩, for_list (xs := kas.map V.ref) (fun i σ' H' => ∃ r x, σ' = [some (.ref l), some (.ref r), x] ∧ Same H H' ∧ H' r = some (.lst ((scl (ks.take i)).map V.str)) ∧ H r = none) ⟨r0, none, rfl, s0, upd_same, hr0⟩ (fun i σ' H' _ ⟨_, _, _, s, _⟩ => SqL.of (s _ _ hl)) ?_ ?_⟩
    · rintro i x0 σ' H' hx ⟨r, x1, rfl, s1, h1, h1n⟩
      obtain ⟨a, ha, rfl⟩ := get_ref hx
      obtain ⟨kn, hk1, hk2⟩ := KD.Paired.get hk ha
      obtain ⟨dx, e⟩ := hk2
      have e1 := s1 _ _ e
      have gn := ok.nm kn (mem_get hk1)
      have lsz : (("size " : Str)).length = 5 := by decide +kernel
      have lal : (("align " : Str)).length = 6 := by decide +kernel
      have gl := gn.le
      refine ⟨_, rfl, _, rfl, a, _, dx, _, _, rfl, e1, T.kind.cl, T.nName, rfl, _, _, rfl, rfl, by rw [lsz, sizeLine_eq]; omega, _, rfl, a, _, dx, _, _, rfl, e1, T.kind.cl, T.nName, rfl, _, _, rfl, rfl, by rw [lal, sizeLine_eq]; omega, two_ok, fun b hb => ?_⟩
      have hb' := same_new (o := .lst [.str (("size " : Str) ++ kn.1), .str (("align " : Str) ++ kn.1)]) hb
      have len : (scl (ks.take i)).length ≤ 6 := by rw [scl_len, List.length_take]; omega
      refine ⟨r, b, _, _, rfl, rfl, hb' _ _ h1, upd_same, by rw [List.length_map, sizeLine_eq]; simp only [List.length_cons, List.length_nil]; omega, fun r2 hr2 => ?_⟩
      refine ⟨r2, _, rfl, (s1.trans hb').trans (same_new hr2), ?_, (s1.trans hb').free hr2⟩
      rw [upd_same, scl_take hk1, List.map_append]; rfl
    · rintro σ' H' ⟨r, x1, rfl, s1, h1, h1n⟩
      rw [List.length_map, lk, List.take_length] at h1
      exact ⟨_, rfl, q r _ s1 h1 h1n⟩
/-- bounds in a list -/
def BlAt (H : Hp) (r : Addr) (bas : List Addr) (bs : List Bd) : Prop := H r = some (.lst (bas.map V.ref)) ∧ BdsAt H bas bs
theorem BlAt.mono {H H' : Hp} {r : Addr} {bas : List Addr} {bs : List Bd} (s : Same H H') (h : BlAt H r bas bs) : BlAt H' r bas bs := ⟨s _ _ h.1, h.2.mono s⟩
def spLOwn (cK : Addr) : Sp := fun vs H Q _ => ∃ l kas ks, vs = [.ref l] ∧ KlAt cK H l kas ks ∧ KsOk ks ∧ ∀ r bas H', Same H H' → BlAt H' r bas (own ks) → H r = none → Q (.ref r) H'
theorem sc_L_own : FnScope n_L_own p_L_own (defScope s_L_own) := ⟨rfl, rfl, rfl, by decide +kernel, rfl, by decide +kernel, by decide +kernel⟩
theorem ok_L_own (T : KdOk K mg C) (G_L_scales : Fd P w K mg base CX0 1 "_law_scales" (spLScales C.kind)) (F : FnDf K "_law_own" "_law_own" s_L_own f fd) : FnOk P w K mg base CX0 2 f fd p_L_own (spLOwn C.kind) := by
  refine F.ok sc_L_own (fun vs H Q E h => ?_) (fun cdv A outer s H vs Q E hr h => ?_)
  · obtain ⟨l, kas, ks, rfl, _⟩ := h; rfl
  · obtain ⟨l, kas, ks, rfl, ⟨hl, hk⟩, ok, q⟩ := h
    have hu := hu_of hr
    have n := sc_L_own.nd
    refine ⟨_, PSs.nox (pss_cons (ps_setLc (own := [("_law_scale", 2)]) (g := gName 2) (i := 1) rfl n rfl rfl (sw_true rfl rfl rfl (by decide +kernel)) (pi_list (pe_d G_L_scales (hr.mono (by decide)) pass0 (pa_cons (pv 0) pa_nil))) (blkOk_by (N := n_L_own) (sc := defScope s_L_own) (by decide +kernel)) (fun _ _ _ _ _ => (pg_name (i := 2) n rfl (.inl rfl))) (fun _ _ _ _ _ => pts_nil) (fun _ _ _ _ _ => (pe_tup (pa_cons pe_str (pa_cons (pv 2) (pa_cons pe_int pa_nil))))))
      (pss_one (ps_ret (pe_op op_cat (pv 1) (pe_lc (own := [("_law_kind", 3)]) (g := gName 3) rfl n (pi_list (pv 0)) (blkOk_by (N := n_L_own) (sc := defScope s_L_own) (by decide +kernel)) (fun _ _ _ _ _ => (pg_name (i := 3) n rfl (.inl rfl))) (fun _ _ _ _ _ => pts_nil) (fun _ _ _ _ _ => (pe_tup (pa_cons (pe_op op_add_str pe_str (pe_fldK (K := K) rfl (pv 3) rfl)) (pa_cons (pe_op op_add_str pe_str (pe_fldK (K := K) rfl (pv 3) rfl)) (pa_cons pe_int pa_nil)))))))))), ?_⟩
    have lk := hk.length
    have k3 := ok.le
    have l6 := scl_len ks
    have lsz : (("size " : Str)).length = 5 := by decide +kernel
    have lal : (("align " : Str)).length = 6 := by decide +kernel
    refine ⟨_, rfl, l, kas, ks, rfl, ⟨hl, hk⟩, ok, fun sa H1 s1 hs _ => ⟨sa, rfl, ⟨_, SqL.of hs⟩, fun D hD => ?_⟩⟩
    refine lcm_list (xs := (scl ks).map V.str) (H0 := H1) (R := RBd fun x b => ∃ s, x = V.str s ∧ b = (("byte" : Str), s, (0 : Int))) (rbd_mono _) (okG_name 2) (Same.refl _) hD (SqL.of hs) (by rw [List.length_map, sizeLine_eq]; omega) (fun y hy => ?_) ?_
    · intro H3 acc Ky s3 hD3 ky
      obtain ⟨x, hx, rfl⟩ := List.mem_map.mp hy
      exact ⟨rfl, _, rfl, three_ok, fun p hp => ky _ _ (same_new hp) ⟨p, ("byte", x, 0), rfl, hide_new hD3 hp, x, rfl, rfl⟩⟩
    · intro H2 ys s2 hD2 hp2
      obtain ⟨bas, bs, rfl, hb1, g1⟩ := rbd_split hp2
      have e1 := own1 g1
      subst e1
      have s02 := s1.trans s2
      refine ⟨_, rfl, _, rfl, l, rfl, ⟨_, SqL.of (s02 _ _ hl)⟩, fun D2 hDn => ?_⟩
      refine lcm_list (xs := kas.map V.ref) (H0 := H2) (R := RBd fun x b => ∃ a, x = V.ref a ∧ ∀ k, KdAt C.kind H a k → b = (("align " : Str) ++ k.1, ("size " : Str) ++ k.1, (0 : Int))) (rbd_mono _) (okG_name 3) (Same.refl _) hDn (SqL.of (s02 _ _ hl)) (by rw [List.length_map, sizeLine_eq]; omega) (fun y hy => ?_) ?_
      · intro H3 acc Ky s3 hD3 ky
        obtain ⟨a, ha, rfl⟩ := List.mem_map.mp hy
        obtain ⟨i, hi⟩ := List.getElem?_of_mem ha
        obtain ⟨k, hkm, hka⟩ := KD.Paired.get hk hi
        obtain ⟨dx, ea⟩ := hka.mono (s02.trans s3)
        have gk := ok.nm k (mem_get hkm)
        have g8 := gk.le
        refine ⟨rfl, _, rfl, a, _, dx, _, _, rfl, ea, T.kind.cl, T.nName, rfl, _, _, rfl, rfl, by rw [lal, sizeLine_eq]; omega, _, rfl, a, _, dx, _, _, rfl, ea, T.kind.cl, T.nName, rfl, _, _, rfl, rfl, by rw [lsz, sizeLine_eq]; omega, three_ok, fun p hp => ?_⟩
        exact ky _ _ (same_new hp) ⟨p, (("align " : Str) ++ k.1, ("size " : Str) ++ k.1, (0 : Int)), rfl, hide_new hD3 hp, a, rfl, fun k' hk' => by rw [hka.uniq hk']⟩
      · intro H3 ys s3 hD3 hp3
        obtain ⟨bas2, bs2, rfl, hb2, g2⟩ := rbd_split hp3
        have e2 := own2 hk g2
        subst e2
        have lb1 := hb1.len
        have lb2 := hb2.len
        rw [List.length_map] at lb1 lb2
        refine ⟨D, D2, _, _, rfl, rfl, s3 _ _ hD2, hD3, by rw [List.length_map, List.length_map, sizeLine_eq]; omega, fun p hp => ?_⟩
        have s4 := same_new (o := .lst (bas.map V.ref ++ bas2.map V.ref)) hp
        exact q p (bas ++ bas2) _ (s02.trans (s3.trans s4)) ⟨by rw [upd_same, List.map_append], (hb1.mono (s3.trans s4)).app (hb2.mono s4)⟩ ((s02.trans s3).free hp)
end
end KD
set_option Elab.async false
set_option linter.all false
set_option maxRecDepth 100000
set_option maxHeartbeats 4000000
namespace KD
open PySem PySem.Spec PyProof.Rows L2 KT KR
/-- numbers by name, 0 up to m -/
def PoAt (H : Hp) (d : Addr) (N : List Str) (m : Int) : Prop := ∃ kvs : List (Key × V), H d = some (.dK kvs) ∧ kvs.length ≤ 7 ∧ ∀ x ∈ N, ∃ i : Int, valV kvs (.inr x) = some (.int i) ∧ 0 ≤ i ∧ i ≤ m
theorem PoAt.mono {H H' : Hp} {d : Addr} {N : List Str} {m : Int} (s : Same H H') (h : PoAt H d N m) : PoAt H' d N m := let ⟨k, e, r⟩ := h; ⟨k, s _ _ e, r⟩
theorem putK_len {κ : Type} [DecidableEq κ] (kvs : List (κ × V)) (k : κ) (v : V) : (putK kvs k v).length ≤ kvs.length + 1 := by
  unfold putK
  split
  · rw [List.length_map]; omega
  · rw [List.length_append]; exact Nat.le_refl _
/-- the numbers of some names -/
def Nums (kvs : List (Key × V)) (N : List Str) (m : Int) : Prop := ∀ x ∈ N, ∃ i : Int, valV kvs (.inr x) = some (.int i) ∧ 0 ≤ i ∧ i ≤ m
theorem Nums.put {kvs : List (Key × V)} {N : List Str} {m i : Int} (h : Nums kvs N m) (y : Str) (h0 : 0 ≤ i) (h1 : i ≤ m) : Nums (putK kvs (.inr y) (.int i)) (N ++ [y]) m := fun x hx => by
  rw [valV_put]
  by_cases e : x = y
  · exact ⟨i, by rw [if_pos (by rw [e])], h0, h1⟩
  · rw [if_neg (fun z => e (Sum.inr.inj z))]
    rcases List.mem_append.mp hx with q | q
    · exact h x q
    · exact absurd (List.mem_singleton.mp q) e
section
variable {P : Program} {w : World} {K : PySem.W.Frag} {mg : Str → Option Value} {base : Heap} {f fI : Addr} {fd : FuncData} {C : Kd}
def spLPoint (cK : Addr) : Sp := fun vs H Q _ => ∃ p pl n l kas ks, ∃ most : Int, vs = [.ref p, .ref l, .int most] ∧ PenAt H p pl n ∧ n ≤ 80000 ∧ KlAt cK (hide p H) l kas ks ∧ KsOk ks ∧ 0 ≤ most ∧ most ≤ 40 ∧
  ∀ d H', PenAt H' p pl (n + 6) → But p H H' → PoAt (hide p H') d (nms ks) most → Q (.ref d) H'
theorem sc_L_point : FnScope n_L_point p_L_point (defScope s_L_point) := ⟨rfl, rfl, rfl, by decide +kernel, rfl, by decide +kernel, by decide +kernel⟩
theorem ok_L_point (T : KdOk K mg C) (G_L_draw : Fd P w K mg base CX0 1 "_law_draw" spDraw) (F : FnDf K "_law_point" "_law_point" s_L_point f fd) : FnOk P w K mg base CX0 2 f fd p_L_point (spLPoint C.kind) := by
  refine F.ok sc_L_point (fun vs H Q E h => ?_) (fun cdv A outer s H vs Q E hr h => ?_)
  · obtain ⟨p, pl, n, l, kas, ks, most, rfl, _⟩ := h; rfl
  · obtain ⟨p, pl, k, l, kas, ks, most, rfl, hp, hk, ⟨hl, kk⟩, ok, m0, m1, q⟩ := h
    have hu := hu_of hr
    have n := sc_L_point.nd
    refine ⟨_, PSs.nox (pss_cons (ps_set (i := 3) n rfl (.inl rfl) (pe_disp (pps_cons pe_str pe_int pps_nil) (by rfl) (by rfl) (fun z => by cases z) (by decide)))
      (pss_cons (ps_for PassesOwn.never rfl (pi_list (pv 1)) (pg_name (i := 4) n rfl (.inl rfl))
        (pss_cons (ps_set (i := 5) n rfl (.inl rfl) (pe_d G_L_draw (hr.mono (by decide)) pass0 (pa_cons (pv 0) (pa_cons (pe_op op_add (pv 2) pe_int) pa_nil))))
          (pss_cons (ps_dput hu (pv 3) (pe_op op_add_str pe_str (pe_fld (pv 4) rfl)) (pv 5) rfl)
          (pss_one (ps_dput hu (pv 3) (pe_op op_add_str pe_str (pe_fld (pv 4) rfl)) (pe_d G_L_draw (hr.mono (by decide)) pass0 (pa_cons (pv 0) (pa_cons (pe_op op_add (pv 5) pe_int) pa_nil))) rfl)))))
      (pss_one (ps_ret (pv 3))))), ?_⟩
    intro d hd
    have nd := hp.ne hd
    refine ⟨upd_same, [(.inr "byte", .int 0)], rfl, by decide, ?_⟩
    have lk := kk.length
    have k3 := ok.le
    have lsz : (("size " : Str)).length = 5 := by decide +kernel
    have lal : (("align " : Str)).length = 6 := by decide +kernel
    generalize hH0 : L2.upd (L2.upd H d (HO.dK [])) d (HO.dK _) = H0
    have h0 : H0 d = some (.dK [(.inr "byte", .int 0)]) := by rw [← hH0, upd_same]; rfl
    have s0 : Same H H0 := hH0 ▸ same_mut (same_new hd) hd
    refine ⟨_, rfl, l, rfl, ⟨_, SqL.of (s0 _ _ (hide_at hl).1)⟩, for_list (xs := kas.map V.ref) (fun i σ' H' => ∃ x y, σ' = [some (.ref p), some (.ref l), some (.int most), some (.ref d), x, y] ∧ PenAt H' p pl (k + 2 * i) ∧ But p H H' ∧
        ∃ kvs, H' d = some (.dK kvs) ∧ kvs.length ≤ 1 + 2 * i ∧ Nums kvs ("byte" :: scl (ks.take i)) most) ⟨none, none, rfl, hp.mono s0, But.of s0, _, h0, by decide, ?_⟩ (fun i σ' H' _ ⟨_, _, _, _, b, _⟩ => SqL.of (hide_at (b _ _ hl)).1) ?_ ?_⟩
    · intro x hx
      have hx := List.mem_singleton.mp hx
      rw [hx]
      exact ⟨0, by decide +kernel, by decide, m0⟩
    · rintro i x0 σ' H' hx ⟨x1, y1, rfl, hp1, b1, kvs, h1, l1, n1⟩
      obtain ⟨a, ha, rfl⟩ := get_ref hx
      obtain ⟨kn, hk1, hk2⟩ := KD.Paired.get kk ha
      have i3 : i < 3 := by
        have := (List.getElem?_eq_some_iff.mp hk1).1
        omega
      obtain ⟨dx, e⟩ := hk2
      have gn := (ok.nm kn (mem_get hk1)).le
      refine ⟨_, rfl, _, rfl, _, _, rfl, rfl, p, pl, _, _, rfl, hp1, by omega, by omega, by omega, fun big H2 g0 g1 hp2 b2 => ?_⟩
      have e2 := (hide_at (b2 _ _ (b1 _ _ e))).1
      have h2 := b2.get nd h1
      refine ⟨_, rfl, _, rfl, _, rfl, a, _, dx, _, _, rfl, e2, T.kind.cl, T.nName, rfl, _, _, rfl, rfl, by rw [lsz, sizeLine_eq]; omega, d, _, rfl, DPut.k (k := .inr (("size " : Str) ++ kn.1)) h2 (small1000 (by omega)), ?_⟩
      have hp3 := hp2.upd (o := .dK (putK kvs (.inr (("size " : Str) ++ kn.1)) (.int big))) nd (hp.nl hd)
      have b3 : But p H (L2.upd H2 d (.dK (putK kvs (.inr (("size " : Str) ++ kn.1)) (.int big)))) := But.mut (Same.trans b1 b2) nd hd
      have h3 : L2.upd H2 d (.dK (putK kvs (.inr (("size " : Str) ++ kn.1)) (.int big))) d = some (.dK (putK kvs (.inr (("size " : Str) ++ kn.1)) (.int big))) := upd_same
      have n3 := n1.put (("size " : Str) ++ kn.1) g0 (by omega)
      have l3 := putK_len kvs (.inr (("size " : Str) ++ kn.1)) (.int big)
      generalize L2.upd H2 d (.dK (putK kvs (.inr (("size " : Str) ++ kn.1)) (.int big))) = H3 at hp3 b3 h3 ⊢
      generalize putK kvs (.inr (("size " : Str) ++ kn.1)) (.int big) = kv3 at h3 n3 l3
      have e3 := (hide_at (b3 _ _ e)).1
      refine ⟨_, rfl, _, rfl, _, _, rfl, rfl, p, pl, _, _, rfl, hp3, by omega, by omega, by omega, fun al H4 f0 f1 hp4 b4 => ?_⟩
      have e4 := (hide_at (b4 _ _ (b3 _ _ e))).1
      have h4 := b4.get nd h3
      refine ⟨_, rfl, _, rfl, a, _, dx, _, _, rfl, e4, T.kind.cl, T.nName, rfl, _, _, rfl, rfl, by rw [lal, sizeLine_eq]; omega, d, _, rfl, DPut.k (k := .inr (("align " : Str) ++ kn.1)) h4 (small1000 (by omega)), ?_⟩
      have l5 := putK_len kv3 (.inr (("align " : Str) ++ kn.1)) (.int al)
      refine ⟨_, _, rfl, (hp4.upd nd (hp.nl hd)).more (by omega), But.mut (Same.trans b3 b4) nd hd, _, upd_same, by omega, ?_⟩
      rw [scl_take hk1]
      have := n3.put (("align " : Str) ++ kn.1) f0 (show al ≤ most by omega)
      simpa [sclK] using this
    · rintro σ' H' ⟨x1, y1, rfl, hp1, b1, kvs, h1, l1, n1⟩
      rw [List.length_map, lk] at hp1 l1 n1
      rw [List.take_length] at n1
      exact ⟨_, rfl, q d _ (hp1.more (by omega)) b1 ⟨kvs, at_hide h1 nd, by omega, n1⟩⟩
def spLBounds (cK : Addr) : Sp := fun vs H Q _ => ∃ p pl n l kas ks, ∃ most : Int, vs = [.ref p, .ref l, .int most] ∧ PenAt H p pl n ∧ n ≤ 70000 ∧ KlAt cK (hide p H) l kas ks ∧ KsOk ks ∧ 0 ≤ most ∧ most ≤ 40 ∧
  ∀ r bas bs H', PenAt H' p pl (n + 70) → But p H H' → BlAt (hide p H') r bas bs → H r = none → KM.In (nms ks) bs → (∀ e ∈ bs, -50 ≤ e.2.2 ∧ e.2.2 ≤ 50) → bs.length ≤ 12 → Q (.ref r) H'
theorem sc_L_bounds : FnScope n_L_bounds p_L_bounds (defScope s_L_bounds) := ⟨rfl, rfl, rfl, by decide +kernel, rfl, by decide +kernel, by decide +kernel⟩
theorem Nums.get {kvs : List (Key × V)} {N : List Str} {m : Int} (h : Nums kvs N m) {x : Str} (hx : x ∈ N) : ∃ i : Int, valV kvs (.inr x) = some (.int i) ∧ 0 ≤ i ∧ i ≤ m := h x hx
theorem ok_L_bounds (B : Blt mg) (T : KdOk K mg C) (G_L_draw : Fd P w K mg base CX0 1 "_law_draw" spDraw) (G_L_pick : Fd P w K mg base CX0 2 "_law_pick" spPick) (G_L_scales : Fd P w K mg base CX0 1 "_law_scales" (spLScales C.kind)) (G_L_point : Fd P w K mg base CX0 2 "_law_point" (spLPoint C.kind))
    (F : FnDf K "_law_bounds" "_law_bounds" s_L_bounds f fd) : FnOk P w K mg base CX0 3 f fd p_L_bounds (spLBounds C.kind) := by
  refine F.ok sc_L_bounds (fun vs H Q E h => ?_) (fun cdv A outer s H vs Q E hr h => ?_)
  · obtain ⟨p, pl, n, l, kas, ks, most, rfl, _⟩ := h; rfl
  · obtain ⟨p, pl, k, l, kas, ks, most, rfl, hp, hk, hl, ok, m0, m1, q⟩ := h
    have hu := hu_of hr
    have n := sc_L_bounds.nd
    refine ⟨_, PSs.nox (pss_cons (ps_set (i := 3) n rfl (.inl rfl) (pe_op op_cat (pe_lst (pa_cons pe_str pa_nil)) (pe_d G_L_scales (hr.mono (by decide)) pass0 (pa_cons (pv 1) pa_nil))))
      (pss_cons (ps_set (i := 4) n rfl (.inl rfl) (pe_d G_L_point (hr.mono (by decide)) pass0 (pa_cons (pv 0) (pa_cons (pv 1) (pa_cons (pv 2) pa_nil)))))
      (pss_cons (ps_par (i := 5) (j := 6) rfl n rfl rfl (by decide) rfl rfl (pa_cons (pe_lst pa_nil) (pa_cons (pe_cmpR op_eq (pe_d G_L_draw (hr.mono (by decide)) pass0 (pa_cons (pv 0) (pa_cons pe_int pa_nil))) pe_int (nomark _)) pa_nil)) (by rfl))
      (pss_cons (ps_for PassesOwn.never rfl (pi_range1 rfl B.range (pa_cons (pe_d G_L_pick (hr.mono (by decide)) pass0 (pa_cons (pv 0) (pa_cons (pe_lst (pa_cons pe_int (pa_cons pe_int (pa_cons pe_int (pa_cons pe_int (pa_cons pe_int (pa_cons pe_int (pa_cons pe_int pa_nil)))))))) pa_nil))) pa_nil)) (pg_name (i := 7) n rfl (.inl rfl))
        (pss_cons (ps_par (i := 8) (j := 9) rfl n rfl rfl (by decide) rfl rfl (pa_cons (pe_d G_L_pick (hr.mono (by decide)) pass0 (pa_cons (pv 0) (pa_cons (pv 3) pa_nil))) (pa_cons (pe_d G_L_pick (hr.mono (by decide)) pass0 (pa_cons (pv 0) (pa_cons (pv 3) pa_nil))) pa_nil)) (by rfl))
          (pss_cons (ps_set (i := 10) n rfl (.inl rfl) (pe_op op_add (pe_op op_sub (pe_dget hu (pv 4) (pv 8) (fun _ _ => rfl)) (pe_dget hu (pv 4) (pv 9) (fun _ _ => rfl))) (pe_d G_L_pick (hr.mono (by decide)) pass0 (pa_cons (pv 0) (pa_cons (pe_lst (pa_cons pe_int (pa_cons pe_int (pa_cons pe_int (pa_cons pe_int pa_nil))))) pa_nil)))))
          (pss_ct (ps_if (PW.pt (pw_and (pt_val (pv 6)) (pw_and1 (pt_cmpR op_eq (pe_d G_L_draw (hr.mono (by decide)) pass0 (pa_cons (pv 0) (pa_cons pe_int pa_nil))) pe_int (nomark _)))))
            (pss_one (ps_set (i := 10) n rfl (.inl rfl) (pe_op op_sub (pe_d G_L_draw (hr.mono (by decide)) pass0 (pa_cons (pv 0) (pa_cons (pe_op op_add (pe_op op_mul pe_int (pv 2)) pe_int) pa_nil))) (pv 2))))
            pss_nil)
          (pss_one (ps_expr (pe_bm PySem.F.plainAttrs_list PySem.F.slot_list_append PySem.F.type_list_append mt_append (pv 5) (pa_cons (pe_tup (pa_cons (pv 8) (pa_cons (pv 9) (pa_cons (pv 10) pa_nil)))) pa_nil))))))))
      (pss_one (ps_ret (pv 5))))))), ?_⟩
    have k3 := ok.le
    refine ⟨by decide, fun lb hlb => ?_⟩
    have s0 := same_new (o := .lst [.str "byte"]) hlb
    refine ⟨_, rfl, l, kas, ks, rfl, (hl.mono hide_same).mono s0, ok, fun sa H1 s1 hs nsa => ?_⟩
    refine ⟨lb, sa, _, _, rfl, rfl, s1 _ _ upd_same, hs, by rw [List.length_map, scl_len, sizeLine_eq]; simp only [List.length_cons, List.length_nil]; omega, fun nl hnl => ?_⟩
    have s2 := (s0.trans s1).trans (same_new (o := .lst ([.str "byte"] ++ (scl ks).map V.str)) hnl)
    have hN : L2.upd H1 nl (.lst ([.str "byte"] ++ (scl ks).map V.str)) nl = some (.lst ((nms ks).map V.str)) := upd_same
    have nn : nl ≠ p := hp.ne ((s0.trans s1).free hnl)
    generalize L2.upd H1 nl (.lst ([.str "byte"] ++ (scl ks).map V.str)) = H2 at s2 hN ⊢
    have hN := at_hide hN nn
    refine ⟨_, rfl, _, rfl, _, rfl, p, pl, k, l, kas, ks, most, rfl, hp.mono s2, by omega, hl.mono (hide_mono s2), ok, m0, m1, fun d H3 hp3 b3 hd3 => ?_⟩
    refine ⟨by decide, fun r hr3 => ?_⟩
    have nr := hp3.ne hr3
    have nrl := hp3.nl hr3
    have s4 := same_new (o := .lst []) hr3
    refine ⟨_, rfl, p, pl, _, _, rfl, hp3.mono s4, by omega, by decide, by decide, fun fr H5 _ _ hp5 b5 => ⟨rfl, _, _, rfl, ?_⟩⟩
    have b25 : But p H3 H5 := (But.of s4).trans b5
    refine ⟨_, rfl, by rw [sizeLine_eq]; decide, fun la hla => ?_⟩
    have s6 := same_new (o := .lst [.int 0, .int 1, .int 2, .int 3, .int 5, .int 8, .int 12]) hla
    refine ⟨p, pl, la, _, _, rfl, hp5.mono s6, by omega, at_hide upd_same (hp5.ne hla), by decide, by decide, fun x7 H7 hx7 hp7 b7 => ?_⟩
    have b37 : But p H3 H7 := Same.trans b25 ((But.of s6).trans b7)
    obtain ⟨j, rfl, j12⟩ : ∃ j : Nat, x7 = .int (j : Int) ∧ j ≤ 12 := by
      simp at hx7
      rcases hx7 with rfl | rfl | rfl | rfl | rfl | rfl | rfl
      · exact ⟨0, rfl, by decide⟩
      · exact ⟨1, rfl, by decide⟩
      · exact ⟨2, rfl, by decide⟩
      · exact ⟨3, rfl, by decide⟩
      · exact ⟨5, rfl, by decide⟩
      · exact ⟨8, rfl, by decide⟩
      · exact ⟨12, rfl, by decide⟩
    have h7r : H7 r = some (.lst []) := But.get (Same.trans (But.of s6) b7) nr (b5.get nr upd_same)
    refine ⟨_, rfl, by omega, by omega, for_it (walk_range (lo := 0) (n := j)) (fun i σ' H' => ∃ x7 x8 x9 x10 bas bs, ∃ fb : Bool, σ' = [some (.ref p), some (.ref l), some (.int most), some (.ref nl), some (.ref d), some (.ref r), some (.bl fb), x7, x8, x9, x10] ∧
        PenAt H' p pl (k + 8 + 5 * i) ∧ But p H3 H' ∧ H' r = some (.lst (bas.map V.ref)) ∧ BdsAt (hide r (hide p H')) bas bs ∧ KM.In (nms ks) bs ∧ (∀ e ∈ bs, -50 ≤ e.2.2 ∧ e.2.2 ≤ 50) ∧ bs.length = i)
      ⟨_, _, _, _, [], [], _, rfl, hp7.more (by omega), b37, h7r, .nil, fun _ z => (nomatch z), fun _ z => (nomatch z), rfl⟩ (fun _ _ _ _ _ => trivial) ?_ ?_⟩
    · rintro i x σ8 H8 H8' hi ⟨x7, x8, x9, x10, bas, bs, fb, rfl, hp8, b8, h8, bd8, in8, c8, l8⟩ ⟨rfl, rfl⟩
      have lnm : ((nms ks).map V.str).length = 1 + 2 * ks.length := by rw [List.length_map, nms_len]
      have k1 := ok.ne
      have hN8 := b8 _ _ (b3 _ _ hN)
      refine ⟨_, rfl, _, rfl, p, pl, nl, _, _, rfl, hp8, by omega, hN8, by omega, by omega, fun xi H9 hxi hp9 b9 => ?_⟩
      obtain ⟨ni, mi, rfl⟩ := List.mem_map.mp hxi
      have hN9 := b9 _ _ hN8
      refine ⟨_, rfl, _, rfl, p, pl, nl, _, _, rfl, hp9, by omega, hN9, by omega, by omega, fun xj H10 hxj hp10 b10 => ?_⟩
      obtain ⟨nj, mj, rfl⟩ := List.mem_map.mp hxj
      refine ⟨_, _, rfl, ?_⟩
      have b810 : But p H8' H10 := Same.trans b9 b10
      obtain ⟨kvs, hd10, lkv, nums⟩ := hd3
      have hdp := hide_at (b810 _ _ (b8 _ _ hd10))
      have g1 := hdp.1
      obtain ⟨vi, ei, i0, i1⟩ := nums ni mi
      obtain ⟨vj, ej, j0, j1⟩ := nums nj mj
      have gi : DGet H10 d (.str ni) (some (.int vi)) := ei ▸ DGet.k (k := .inr ni) g1
      have gj : DGet H10 d (.str nj) (some (.int vj)) := ej ▸ DGet.k (k := .inr nj) g1
      refine ⟨_, rfl, _, rfl, d, _, rfl, gi, _, rfl, _, rfl, d, _, rfl, gj, _, _, rfl, rfl, _, rfl, by rw [sizeLine_eq]; decide, fun lc hlc => ?_⟩
      have s11 := same_new (o := .lst [.int 0, .int 0, .int 1, .int 3]) hlc
      refine ⟨p, pl, lc, _, _, rfl, hp10.mono s11, by omega, at_hide upd_same (hp10.ne hlc), by decide, by decide, fun x12 H12 hx12 hp12 b12 => ?_⟩
      have b812 : But p H8' H12 := Same.trans b810 ((But.of s11).trans b12)
      obtain ⟨u, rfl, u0, u3⟩ : ∃ u : Int, x12 = .int u ∧ 0 ≤ u ∧ u ≤ 3 := by
        simp at hx12
        rcases hx12 with rfl | rfl | rfl <;> exact ⟨_, rfl, by decide, by decide⟩
      refine ⟨_, _, rfl, rfl, ?_⟩
      refine ⟨fun σ' H' => ∃ c : Int, σ' = [some (.ref p), some (.ref l), some (.int most), some (.ref nl), some (.ref d), some (.ref r), some (.bl fb), some (.int ((0 : Int) + (i : Nat))), some (.str ni), some (.str nj), some (.int c)] ∧
        PenAt H' p pl (k + 8 + 5 * i + 5) ∧ But p H8' H' ∧ -50 ≤ c ∧ c ≤ 50, ?_, ?_⟩
      · have b8m : ∀ {H'}, But p H12 H' → But p H8' H' := fun z => Same.trans b812 z
        refine u_if (u_and ⟨_, rfl, fb, rfl, ?_⟩)
        refine if2 (fun _ => ?_) (fun _ => iff0 rfl ⟨_, rfl, hp12.more (by omega), b812, by omega, by omega⟩)
        refine u_B ⟨_, rfl, p, pl, _, _, rfl, hp12, by omega, by decide, by decide, fun z H13 _ _ hp13 b13 => ⟨rfl, _, rfl, ?_⟩⟩
        refine if2 (fun _ => ?_) (fun _ => ⟨_, rfl, hp13.more (by omega), b8m b13, by omega, by omega⟩)
        refine ⟨_, rfl, _, rfl, _, _, rfl, rfl, .inl ⟨by decide, by decide⟩, _, _, rfl, rfl, p, pl, _, _, rfl, hp13, by omega, by omega, by omega, fun y H14 y0 y1 hp14 b14 => ?_⟩
        exact ⟨_, rfl, _, _, rfl, rfl, _, rfl, hp14, b8m (Same.trans b13 b14), by omega, by omega⟩
      rintro σ13 H13 ⟨c, rfl, hp13, b13, c0, c1⟩
      have h13 := b13.get nr h8
      refine ⟨_, rfl, .inl ⟨rfl, _, SqL.of h13⟩, _, rfl, _, rfl, _, rfl, three_ok, fun t ht => ?_⟩
      have s14 := same_new (o := .tup [.str ni, .str nj, .int c]) ht
      have ntr : t ≠ r := ne_fresh h13 ht
      have ntp : t ≠ p := hp13.ne ht
      have b14 : But p H8' _ := Same.trans b13 (But.of s14)
      refine ⟨r, _, _, rfl, rfl, s14 _ _ h13, by rw [List.length_map, bd8.len, l8, sizeLine_eq]; omega, ?_⟩
      refine ⟨_, _, _, _, bas ++ [t], bs ++ [(ni, nj, c)], fb, rfl, ((hp13.mono s14).upd nr nrl).more (by omega), But.mut (Same.trans b8 b14) nr hr3, ?_, ?_, ?_, ?_, ?_⟩
      · rw [upd_same, List.map_append]; rfl
      · rw [hide_upd_ne nr, hide_upd]
        refine BdsAt.app (bd8.mono (hide_mono b14)) (.cons ?_ .nil)
        show hide r (hide p _) t = _
        rw [hide_ne ntr, hide_ne ntp, upd_same]
      · intro e he
        rcases List.mem_append.mp he with z | z
        · exact in8 e z
        · rw [List.mem_singleton.mp z]; exact ⟨mi, mj⟩
      · intro e he
        rcases List.mem_append.mp he with z | z
        · exact c8 e z
        · rw [List.mem_singleton.mp z]; exact ⟨c0, c1⟩
      · rw [List.length_append, l8]; rfl
    · rintro σ8 H8 ⟨x7, x8, x9, x10, bas, bs, fb, rfl, hp8, b8, h8, bd8, in8, c8, l8⟩
      refine ⟨_, rfl, q r bas bs H8 (hp8.more (by omega)) ((But.of s2).trans (b3.trans b8)) ⟨at_hide h8 nr, bd8.mono hide_same⟩ (s2.free (But.free b3 nr hr3)) in8 c8 (by omega)⟩
end
end KD
set_option Elab.async false
set_option linter.all false
set_option maxRecDepth 100000
set_option maxHeartbeats 4000000
namespace KD
open PySem PySem.Spec PyProof.Rows L2 KT KR
/-- Zone.of as it is read -/
def OfOk (P : Program) (w : World) (K : PySem.W.Frag) (mg : Str → Option Value) (base : Heap) (C : Kd) : Prop := ∃ mc g o, ClX.CRead K C.zone mc ∧ ClX.CMet K C.zone mc "of" o g ∧ FnR P w K mg base CX0 5 g (spOf C.kind C.zone)
section
variable {P : Program} {w : World} {K : PySem.W.Frag} {mg : Str → Option Value} {base : Heap} {f fI : Addr} {fd : FuncData} {C : Kd}
def spLZone (cK cZ : Addr) : Sp := fun vs H Q _ => ∃ l kas ks r bas bs, vs = [.ref l, .ref r] ∧ KlAt cK H l kas ks ∧ KsOk ks ∧ BlAt H r bas bs ∧ KM.In (nms ks) bs ∧ (∀ e ∈ bs, -50 ≤ e.2.2 ∧ e.2.2 ≤ 50) ∧ bs.length ≤ 30 ∧
  ∀ z T H', Same H H' → ZoneAt cK cZ H' z kas ks (own ks ++ bs) T → ZOk ks (own ks ++ bs) T → Q (.ref z) H'
theorem sc_L_zone : FnScope n_L_zone p_L_zone (defScope s_L_zone) := ⟨rfl, rfl, rfl, by decide +kernel, rfl, by decide +kernel, by decide +kernel⟩
theorem ok_L_zone (Y : ZgOk K mg C) (Z : ZnOk K C.zone) (O : OfOk P w K mg base C) (M : Md P w K mg base CX0 6 C.zone "within" (spWithin C.kind C.zone)) (F : FnDf K "_law_zone" "_law_zone" s_L_zone f fd) : FnOk P w K mg base CX0 7 f fd p_L_zone (spLZone C.kind C.zone) := by
  refine F.ok sc_L_zone (fun vs H Q E h => ?_) (fun cdv A outer s H vs Q E hr h => ?_)
  · obtain ⟨l, kas, ks, r, bas, bs, rfl, _⟩ := h; rfl
  · obtain ⟨l, kas, ks, r, bas, bs, rfl, hl, ok, hb, hin, hc, len, q⟩ := h
    have hu := hu_of hr
    have n := sc_L_zone.nd
    obtain ⟨mc, g, o, cr, cm, FO⟩ := O
    refine ⟨_, PSs.nox (pss_cons (ps_set (i := 2) n rfl (.inl rfl) (ClX.pe_cmeth (C8.pe_gc (by rfl) (gref Y.gZone)) cr cm FO (hr.mono (by decide)) pass0 (pa_cons (pv 0) pa_nil)))
      (pss_cons (ps_for PassesOwn.never rfl (pi_list (pv 1)) (pg_tup rfl (pgs_cons (pg_name (i := 3) n rfl (.inl rfl)) (pgs_cons (pg_name (i := 4) n rfl (.inl rfl)) (pgs_cons (pg_name (i := 5) n rfl (.inl rfl)) pgs_nil))))
        (pss_one (ps_set (i := 2) n rfl (.inl rfl) (pe_m (pv 2) Z.cl M (hr.mono (by decide)) pass0 (pa_cons (pv 3) (pa_cons (pv 4) (pa_cons (pv 5) pa_nil)))))))
      (pss_one (ps_ret (pv 2))))), ?_⟩
    have lb := hb.2.len
    refine ⟨rfl, _, rfl, l, kas, ks, rfl, hl.1, hl.2, ok, fun z0 H1 s1 hz0 => ?_⟩
    refine ⟨_, rfl, r, rfl, ⟨_, SqL.of (s1 _ _ hb.1)⟩, for_list (xs := bas.map V.ref) (fun i σ' H' => ∃ z T x y c, σ' = [some (.ref l), some (.ref r), some (.ref z), x, y, c] ∧ Same H H' ∧ ZoneAt C.kind C.zone H' z kas ks (own ks ++ bs.take i) T ∧ ZOk ks (own ks ++ bs.take i) T)
      ⟨z0, _, _, _, _, rfl, s1, by rw [List.take_zero, List.append_nil]; exact hz0, by rw [List.take_zero, List.append_nil]; exact zok_own ok⟩ (fun i σ' H' _ ⟨_, _, _, _, _, _, s, _⟩ => SqL.of (s _ _ hb.1)) ?_ ?_⟩
    · rintro i x0 σ' H' hx ⟨z, T, x, y, c0, rfl, s2, hz, zk⟩
      obtain ⟨a, ha, rfl⟩ := get_ref hx
      obtain ⟨⟨i1, j1, c⟩, hb1, hb2⟩ := hb.2.get ha
      have i30 := (List.getElem?_eq_some_iff.mp hb1).1
      obtain ⟨in1, in2⟩ := hin _ (mem_get hb1)
      obtain ⟨c1, c2⟩ := hc _ (mem_get hb1)
      have k3 := ok.le
      obtain ⟨dx, kt, st, nt, tt, tv, bas', h1, hrest⟩ := id hz
      refine ⟨a, _, rfl, SqT.of (s2 _ _ hb2), rfl, _, _, rfl, _, _, rfl, _, _, rfl, rfl, ?_⟩
      refine ⟨_, rfl, z, dx, _, rfl, h1, rfl, _, rfl, _, rfl, _, rfl, z, kas, ks, _, T, i1, j1, c, rfl, hz, zk, in1, in2, by simp only at c1 ⊢; omega, by simp only at c2 ⊢; omega, ?_, fun z' H2 s3 hz' => ?_⟩
      · rw [List.length_append, own_len, List.length_take]; omega
      · refine ⟨z', KM.tights (nms ks) T [(i1, j1, c)], _, _, _, rfl, s2.trans s3, ?_, ?_⟩
        · rw [take_get hb1, ← List.append_assoc]; exact hz'
        · rw [take_get hb1, ← List.append_assoc]
          exact zk.more fun e he => by rw [List.mem_singleton.mp he]; exact ⟨in1, in2⟩
    · rintro σ' H' ⟨z, T, x, y, c0, rfl, s2, hz, zk⟩
      rw [List.length_map, lb, List.take_length] at hz zk
      exact ⟨_, rfl, q z T _ s2 hz zk⟩
end
end KD
set_option Elab.async false
set_option linter.all false
set_option maxRecDepth 100000
set_option maxHeartbeats 4000000
namespace KR
open PySem PySem.Spec PyProof.Rows L2
/-- an item of the list: the pair at p, its key at t -/
abbrev Itm := Addr × Addr × List Key × V
def ItmAt (H : Hp) (x : Itm) : Prop := H x.1 = some (.tup [.ref x.2.1, x.2.2.2]) ∧ H x.2.1 = some (.tup (x.2.2.1.map kV))
theorem KT.merge {H : Hp} : ∀ {more : List (List Key × V)} {rs : List (List Key × Addr × Value)} {kvs : List (List Key × V)} {xs : List (List Key × Addr × Value)}, KT H more rs → KT H kvs xs → KT H (more.foldl (fun acc kv => putK acc kv.1 kv.2) kvs) (storedAllH xs rs) := by
  intro more rs kvs xs r
  induction r generalizing kvs xs with
  | nil => intro h; exact h
  | @cons p q ps qs h t ih =>
    intro k
    obtain ⟨h1, h2, h3⟩ := h
    refine ih ?_
    show L2.KT H (putK kvs p.1 p.2) (storedH xs q.1 q.2.1 q.2.2)
    rw [← h1]
    exact L2.KT.put k p.1 h2 h3
theorem kt_key {H : Hp} {l : List (List Key × V)} {m : List (List Key × Addr × Value)} (q : L2.KT H l m) : ∀ x ∈ m, H x.2.1 = some (.tup (x.1.map kV)) := by
  induction q with
  | nil => intro x hx; exact nomatch hx
  | @cons p q ps qs hq t ih =>
    intro x hx
    rcases List.mem_cons.mp hx with e | hx
    · subst e
      rw [← hq.1]; exact hq.2.1
    · exact ih x hx
section
variable {X : Cx}
theorem itms_of {pins : List (Addr × Obj)} {σ : L2.St} {H : Hp} {s : Shared} (I : Inv X pins σ H s) : ∀ {its : List Itm}, (∀ x ∈ its, ItmAt H x) →
    ∃ xs : List (List Key × Addr × Value), KT H (its.map fun x => (x.2.2.1, x.2.2.2)) xs ∧ xs.length = its.length ∧ ∀ (j : Nat) (q : List Key × Addr × Value), xs[j]? = some q → ∃ x, its[j]? = some x ∧ IsTup s.heap x.1 #[.ref q.2.1, q.2.2]
  | [], _ => ⟨[], .nil, rfl, fun j q e => by simp at e⟩
  | x :: r, h => by
    obtain ⟨xs, k, l, g⟩ := itms_of I (its := r) fun y hy => h y (List.mem_cons_of_mem _ hy)
    obtain ⟨h1, h2⟩ := h x (List.mem_cons_self ..)
    obtain ⟨its, rv, ht, _⟩ := I.tuple (SqT.of h1)
    obtain ⟨u, y, ei, ru, ry⟩ := vals2 rv
    subst ei
    obtain rfl : u = Value.ref x.2.1 := ru
    refine ⟨(x.2.2.1, x.2.1, y) :: xs, .cons ⟨rfl, h2, ry⟩ k, by rw [List.length_cons, List.length_cons, l], fun j q e => ?_⟩
    cases j with
    | zero =>
      obtain rfl : (x.2.2.1, x.2.1, y) = q := Option.some.inj e
      exact ⟨x, rfl, ht⟩
    | succ j =>
      obtain ⟨z, e1, e2⟩ := g j q (by simpa using e)
      exact ⟨z, by simpa using e1, e2⟩
theorem call_dictT (hcalm : X.calm = true) (hu : X.A.units + 64 < cLine) : CallR X (.type "dict") (fun xs H Q => ∃ (a : Addr) (its : List Itm), xs = [.ref a] ∧ H a = some (.lst (its.map fun x => V.ref x.1)) ∧ (∀ x ∈ its, ItmAt H x) ∧
    ∀ p, H p = none → Q (.ref p) (upd H p (.dT ((its.map fun x => (x.2.2.1, x.2.2.2)).foldl (fun acc kv => putK acc kv.1 kv.2) [])))) := by
  intro pins s σ H xs us Q I r q
  obtain ⟨a, its, ex, hq, hp, q⟩ := q
  subst ex
  obtain ⟨u, eu, rx⟩ := vals1 r
  subst eu
  cases rx
  obtain ⟨vs, rv, pl, hz⟩ := I.list (SqL.of (K := X.K) hq)
  have ei := refs_at (ps := its.map (·.1)) (by rw [List.map_map]; exact rv)
  subst ei
  rw [List.length_map] at hz
  obtain ⟨ps, kt, hl, hg⟩ := itms_of I hp
  have P := PairArg.list (prog := X.prog) (w := X.w) a ((its.map (·.1)).map Value.ref).toArray (fun j => (its[j]?.map (·.1)).getD 0) (ps.map fun q => (Value.ref q.2.1, q.2.2))
  obtain ⟨o, n, ho, hc, hd, hdat⟩ := pl
  refine call_dict_pairsH (knd := tupleKind (mixKind X.prog X.w)) (ps := ps) P (I.ok.hd hcalm) ?_ ⟨⟨o, n, ho, hc, hd, hdat⟩, ?_, ?_⟩ ⟨?_, ?_⟩ ?_ ?_ ?_
  · show X.A.in1.in1.units < cLine
    show X.A.units + 1 + 1 < cLine
    omega
  · simp [hl]
  · intro j k v e
    rw [List.getElem?_map] at e
    cases e2 : ps[j]? with
    | none => rw [e2] at e; cases e
    | some q0 =>
      rw [e2] at e
      obtain ⟨rfl, rfl⟩ := Prod.mk.inj (Option.some.inj e)
      obtain ⟨x, e3, e4⟩ := hg j q0 e2
      refine ⟨?_, .inl ?_⟩
      · simp [e3]
      · obtain ⟨o4, a1, a2, a3⟩ := e4
        simp only [e3, Option.map_some, Option.getD_some]
        exact ⟨o4, a1, a2, a3⟩
  · simp
  · intro i key v e
    have e : (ps.map fun q => (Value.ref q.2.1, q.2.2))[i]? = some (key, v) := e
    rw [List.getElem?_map] at e
    cases e2 : ps[i]? with
    | none => rw [e2] at e; cases e
    | some q0 =>
      rw [e2] at e
      obtain ⟨rfl, rfl⟩ := Prod.mk.inj (Option.some.inj e)
      exact ⟨q0.1, q0.2.1, rfl, rfl⟩
  · intro h' hk x hx
    obtain ⟨o2, its2, n2, h2, r2⟩ := key_of I.hok (kt_key kt x hx)
    exact ⟨o2, its2, n2, hk _ _ (Nat.ne_of_lt (Heap.lt_size h2)) (fun z => nomatch z) h2, r2⟩
  · simp only [List.length_map]; omega
  · intro h' tk hd' k
    have hm : (s.heap.objs.size == sysModules) = false := beq_eq_false_iff_ne.mpr (Nat.ne_of_gt I.big)
    have kt2 := KT.merge kt (kvs := []) (xs := []) .nil
    have hlen : ((its.map fun x => (x.2.2.1, x.2.2.2)).foldl (fun acc kv => putK acc kv.1 kv.2) ([] : List (List Key × V))).length ≤ sizeLine := by
      rw [Paired.length kt2]
      have := storedAllH_length ps ([] : List (List Key × Addr × Value))
      rw [List.length_nil, hl] at this
      omega
    obtain ⟨o5, es, ep, e1, e2, e3, e4, _, e6⟩ := hd'
    have nn := I.hok.fresh (Nat.le_refl s.heap.objs.size)
    exact ⟨.ref s.heap.objs.size, _, I.laid (t' := tk) (fun b u e => k b u (fun z => nomatch z) e) (Nat.le_refl _) (show ObjOk X.prog X.w _ _ _ (.dT _) from ⟨hlen, hm, _, L2.KT.keeps kt2 fun c ys ec => by rw [upd_ne (ne_of_none ec nn)]; exact ec, o5, es, ep, e1, e2, e3, e4, e6⟩), rfl, q _ nn⟩
end
end KR
set_option Elab.async false
set_option linter.all false
set_option maxRecDepth 100000
set_option maxHeartbeats 4000000
namespace KD
open PySem PySem.Spec PyProof.Rows L2 KT KR
/-- what is known of the law's dict -/
def DtAt (H : Hp) (D : Addr) (N : List Str) (T : Tb) : Prop := ∃ kvs, H D = some (.dT kvs) ∧ Rep N kvs T
theorem DtAt.mono {H H' : Hp} {D : Addr} {N : List Str} {T : Tb} (s : Same H H') (h : DtAt H D N T) : DtAt H' D N T := let ⟨k, e, r⟩ := h; ⟨k, s _ _ e, r⟩
/-- if (i, j) not in found or w < found[i, j]: found[i, j] = w -/
theorem low_step {N : List Str} {D : Addr} {H0 H : Hp} {T : Tb} {i j : Str} {w : Int} {σ : L2.St} {ti tj td tw : TE} {E : Ends} (nl : N.length ≤ 7) (hi : i ∈ N) (hj : j ∈ N) (s0 : Same H0 H) (nD : H0 D = none) (hD : DtAt H D N T)
    (h1 : Is ti σ (.str i)) (h2 : Is tj σ (.str j)) (h3 : Is td σ (.ref D)) (h4 : Is tw σ (.int w)) (k : ∀ H', Same H0 H' → DtAt H' D N (KM.low T i j w) → E.nx σ H') :
    tIfS (tOr (tB (tDNotIn (tTup (tCons ti (tCons tj tNil))) td)) (tB (tOp (rI0 fun i j => .bl (decide (i < j))) tw (tDGet td (tTup (tCons ti (tCons tj tNil))))))) (sDPut td (tTup (tCons ti (tCons tj tNil))) tw) tNext E σ H := by
  obtain ⟨kvs, hd, R⟩ := hD
  have put : ∀ {H2 : Hp}, Same H H2 → KM.low T i j w = KM.setT T i j w → sDPut td (tTup (tCons ti (tCons tj tNil))) tw E σ H2 := fun {H2} s2 e => by
    have := R.len nl
    refine r_put (s2 _ _ hd) (by omega) (fun H3 s3 => ?_) h1 h2 h3 h4
    exact k _ (same_mut (s0.trans (s2.trans s3)) nD) ⟨_, upd_same, by rw [e]; exact R.put hi hj⟩
  refine u_if (u_or (u_B (r_notin hd (fun H1 s1 => ⟨_, rfl, ?_⟩) h1 h2 h3)))
  rw [R.in_]
  cases e : T i j with
  | none => exact ift rfl (ift rfl (put s1 (by unfold KM.low; rw [e])))
  | some v =>
    refine iff0 rfl (u_B (h4 _ _ (r_get (s1 _ _ hd) (v := .int v) (by rw [R.val, e]; rfl) (fun H2 s2 => ⟨_, _, rfl, rfl, _, rfl, ?_⟩) h1 h2 h3)))
    refine if2 (fun z => ?_) (fun z => ?_)
    · exact put (s1.trans s2) (by unfold KM.low; rw [e]; dsimp only; rw [if_pos (of_decide_eq_true z)])
    · refine k _ (s0.trans (s1.trans s2)) ⟨kvs, (s1.trans s2) _ _ hd, ?_⟩
      have : KM.low T i j w = T := by unfold KM.low; rw [e]; dsimp only; rw [if_neg (of_decide_eq_false z)]
      rw [this]; exact R
/-- the first pairs -/
theorem rep_free {N : List Str} : ∀ (l acc : List Str) (kvs : List (List Key × V)), (∀ x ∈ l, x ∈ N) → Rep N kvs (fun x y => if x = y ∧ x ∈ acc then some 0 else none) →
    Rep N ((l.map fun n => (ky n n, V.int 0)).foldl (fun acc kv => putK acc kv.1 kv.2) kvs) (fun x y => if x = y ∧ x ∈ acc ++ l then some 0 else none)
  | [], acc, kvs, _, r => by rw [List.append_nil]; exact r
  | a :: t, acc, kvs, h, r => by
    have r2 := r.put (w := 0) (h a (List.mem_cons_self ..)) (h a (List.mem_cons_self ..))
    have r3 := rep_free t (acc ++ [a]) _ (fun x hx => h x (List.mem_cons_of_mem _ hx)) (r2.congr (T' := fun x y => if x = y ∧ x ∈ acc ++ [a] then some 0 else none) fun x y => by
      unfold KM.setT
      by_cases e : x = a ∧ y = a
      · obtain ⟨rfl, rfl⟩ := e
        simp
      · rw [if_neg e]
        show (if x = y ∧ x ∈ acc then (some 0 : Option Int) else none) = _
        by_cases e2 : x = y ∧ x ∈ acc
        · rw [if_pos e2, if_pos ⟨e2.1, List.mem_append_left _ e2.2⟩]
        · rw [if_neg e2, if_neg fun q => ?_]
          rcases List.mem_append.mp q.2 with z | z
          · exact e2 ⟨q.1, z⟩
          · have z := List.mem_singleton.mp z
            exact e ⟨z, by rw [← q.1, z]⟩)
    rw [List.append_assoc] at r3
    exact r3
theorem itms_split {H : Hp} : ∀ {N : List Str} {ys : List V}, Paired (fun x y => ∃ (n : Str) (p t : Addr), x = V.str n ∧ y = V.ref p ∧ ItmAt H (p, t, ky n n, .int 0)) (N.map V.str) ys →
    ∃ its : List Itm, ys = (its.map fun x => V.ref x.1) ∧ (∀ x ∈ its, ItmAt H x) ∧ (its.map fun x => (x.2.2.1, x.2.2.2)) = N.map fun n => (ky n n, V.int 0)
  | [], _, .nil => ⟨[], rfl, fun _ z => (nomatch z), rfl⟩
  | m :: N, _, .cons ⟨n, p, t, e, e2, h⟩ r => by
    obtain ⟨its, a, b, c⟩ := itms_split r
    injection e with e
    subst e
    subst e2
    refine ⟨(p, t, ky m m, .int 0) :: its, by rw [a]; rfl, fun x hx => ?_, by rw [List.map_cons, List.map_cons, c]⟩
    rcases List.mem_cons.mp hx with z | z
    · rw [z]; exact h
    · exact b x z
theorem wayK_diag {N : List Str} {B : List Bd} {x : Str} (hx : x ∈ N) : ∃ t, KM.wayK N B x x = some t := by
  have l1 : KM.Le (KM.free N) (KM.way0 N B) := KM.foldl_Le _ (fun T b => KM.low_Le T _ _ _) B _
  have l2 : KM.Le (KM.way0 N B) (KM.wayK N B) := KM.foldl_Le _ (fun T k => KM.stK_Le N T k) N _
  obtain ⟨t, e, _⟩ := (l1.trans l2) x x 0 (by unfold KM.free; rw [if_pos ⟨rfl, hx⟩])
  exact ⟨t, e⟩
section
variable {P : Program} {w : World} {K : PySem.W.Frag} {mg : Str → Option Value} {base : Heap} {f fI : Addr} {fd : FuncData} {C : Kd}
def spWays : Sp := fun vs H Q _ => ∃ nl N bl bas B, vs = [.ref nl, .ref bl] ∧ H nl = some (.lst (N.map V.str)) ∧ N.length ≤ 7 ∧ BlAt H bl bas B ∧ KM.In N B ∧ ∀ v H', Same H H' → TabAt H' v N (KM.ways N B) → Q v H'
theorem sc_L_ways : FnScope n_L_ways p_L_ways (defScope s_L_ways) := ⟨rfl, rfl, rfl, by decide +kernel, rfl, by decide +kernel, by decide +kernel⟩
theorem ok_L_ways (B : Blt mg) (F : FnDf K "_law_ways" "_law_ways" s_L_ways f fd) : FnOk P w K mg base CX0 1 f fd p_L_ways spWays := by
  refine F.ok sc_L_ways (fun vs H Q E h => ?_) (fun cdv A outer s H vs Q E hr h => ?_)
  · obtain ⟨nl, N, bl, bas, Bs, rfl, _⟩ := h; rfl
  · obtain ⟨nl, N, bl, bas, Bs, rfl, hN, l7, hb, hin, q⟩ := h
    have hu := hu_of hr
    have n := sc_L_ways.nd
    refine ⟨_, PSs.nox (pss_cons (ps_set (i := 2) n rfl (.inl rfl) (pe_callTy (call_dictT rfl hr.units) (by rfl) B.dict (by decide +kernel) (pa_cons (pe_lc (own := [("_law_name", 8)]) (g := gName 8) rfl n (pi_list (pv 0)) (blkOk_by (N := n_L_ways) (sc := defScope s_L_ways) (by decide +kernel)) (fun _ _ _ _ _ => (pg_name (i := 8) n rfl (.inl rfl))) (fun _ _ _ _ _ => pts_nil) (fun _ _ _ _ _ => (pe_tup (pa_cons (pe_tup (pa_cons (pv 8) (pa_cons (pv 8) pa_nil))) (pa_cons pe_int pa_nil))))) pa_nil)))
      (pss_cons (ps_for PassesOwn.never rfl (pi_list (pv 1)) (pg_tup rfl (pgs_cons (pg_name (i := 3) n rfl (.inl rfl)) (pgs_cons (pg_name (i := 4) n rfl (.inl rfl)) (pgs_cons (pg_name (i := 5) n rfl (.inl rfl)) pgs_nil))))
        (pss_one (ps_if (PW.pt (pw_or (pt_cmp (pc_dnotin hu (pe_tup (pa_cons (pv 3) (pa_cons (pv 4) pa_nil))) (pv 2)) (by rfl)) (pw_or1 (pt_cmpR op_lt (pv 5) (pe_dget hu (pv 2) (pe_tup (pa_cons (pv 3) (pa_cons (pv 4) pa_nil))) (fun _ _ => rfl)) (nomark _)))))
            (pss_one (ps_dput hu (pv 2) (pe_tup (pa_cons (pv 3) (pa_cons (pv 4) pa_nil))) (pv 5) rfl))
            pss_nil)))
      (pss_cons (ps_for PassesOwn.never rfl (pi_list (pv 0)) (pg_name (i := 6) n rfl (.inl rfl))
        (pss_one (ps_for PassesOwn.never rfl (pi_list (pv 0)) (pg_name (i := 3) n rfl (.inl rfl))
            (pss_one (ps_for PassesOwn.never rfl (pi_list (pv 0)) (pg_name (i := 4) n rfl (.inl rfl))
                (pss_one (ps_if (PW.pt (pw_and (pt_cmp (pc_din hu (pe_tup (pa_cons (pv 3) (pa_cons (pv 6) pa_nil))) (pv 2)) (by rfl)) (pw_and1 (pt_cmp (pc_din hu (pe_tup (pa_cons (pv 6) (pa_cons (pv 4) pa_nil))) (pv 2)) (by rfl)))))
                    (pss_cons (ps_set (i := 7) n rfl (.inl rfl) (pe_op op_add (pe_dget hu (pv 2) (pe_tup (pa_cons (pv 3) (pa_cons (pv 6) pa_nil))) (fun _ _ => rfl)) (pe_dget hu (pv 2) (pe_tup (pa_cons (pv 6) (pa_cons (pv 4) pa_nil))) (fun _ _ => rfl))))
                      (pss_one (ps_if (PW.pt (pw_or (pt_cmp (pc_dnotin hu (pe_tup (pa_cons (pv 3) (pa_cons (pv 4) pa_nil))) (pv 2)) (by rfl)) (pw_or1 (pt_cmpR op_lt (pv 7) (pe_dget hu (pv 2) (pe_tup (pa_cons (pv 3) (pa_cons (pv 4) pa_nil))) (fun _ _ => rfl)) (nomark _)))))
                        (pss_one (ps_dput hu (pv 2) (pe_tup (pa_cons (pv 3) (pa_cons (pv 4) pa_nil))) (pv 7) rfl))
                        pss_nil)))
                    pss_nil)))))))
      (pss_cons (ps_for PassesOwn.never rfl (pi_list (pv 0)) (pg_name (i := 8) n rfl (.inl rfl))
        (pss_one (ps_if (pt_cmpR op_lt (pe_dget hu (pv 2) (pe_tup (pa_cons (pv 8) (pa_cons (pv 8) pa_nil))) (fun _ _ => rfl)) pe_int (nomark _))
            (pss_one (ps_ret pe_non))
            pss_nil)))
      (pss_one (ps_ret (pv 2))))))), ?_⟩
    refine ⟨_, rfl, nl, rfl, ⟨_, SqL.of hN⟩, fun D hD => ?_⟩
    refine lcm_list (xs := N.map V.str) (H0 := H) (R := fun x y H => ∃ (n : Str) (p t : Addr), x = V.str n ∧ y = V.ref p ∧ ItmAt H (p, t, ky n n, .int 0)) (fun x y H1 H2 s1 ⟨n, p, t, a, b, c, d⟩ => ⟨n, p, t, a, b, s1 _ _ c, s1 _ _ d⟩) (okG_name 8) (Same.refl _) hD (SqL.of hN) (by rw [List.length_map, sizeLine_eq]; omega) (fun y hy => ?_) ?_
    · obtain ⟨x, hx, rfl⟩ := List.mem_map.mp hy
      intro H3 acc Ky s3 hD3 kyy
      refine ⟨rfl, _, rfl, _, rfl, two_ok, fun t ht => ⟨two_ok, fun p hp => ?_⟩⟩
      have st := same_new (o := .tup [.str x, .str x]) ht
      have hD4 := st _ _ hD3
      have sp := same_new (o := .tup [.ref t, .int 0]) hp
      exact kyy _ _ (st.trans sp) ⟨x, p, t, rfl, rfl, hide_new hD4 hp, by
        have : hide D (upd H3 t (.tup [.str x, .str x])) t = some (.tup [.str x, .str x]) := hide_new hD3 ht
        exact hide_mono sp _ _ this⟩
    intro H1 ys s1 hD1 hp1
    obtain ⟨its, rfl, hits, ekv⟩ := itms_split hp1
    refine ⟨D, its, rfl, hD1, hits, fun d hd => ?_⟩
    rw [ekv]
    have r0 := rep_free N [] [] (fun x hx => hx) ((Rep.nil N).congr fun x y => by simp)
    rw [List.nil_append] at r0
    have s2 : Same H (upd H1 d (.dT ((N.map fun n => (ky n n, V.int 0)).foldl (fun acc kv => putK acc kv.1 kv.2) []))) := s1.trans (same_new hd)
    have hd0 : H d = none := s1.free hd
    have h0 : DtAt (upd H1 d (.dT ((N.map fun n => (ky n n, V.int 0)).foldl (fun acc kv => putK acc kv.1 kv.2) []))) d N (KM.free N) := ⟨_, upd_same, r0⟩
    generalize upd H1 d (.dT ((N.map fun n => (ky n n, V.int 0)).foldl (fun acc kv => putK acc kv.1 kv.2) [])) = H2 at s2 h0 ⊢
    -- the bounds
    refine ⟨_, rfl, bl, rfl, ⟨_, SqL.of (s2 _ _ hb.1)⟩, for_list (xs := bas.map V.ref) (fun i σ' H' => ∃ x3 x4 x5, σ' = [some (.ref nl), some (.ref bl), some (.ref d), x3, x4, x5, none, none, none] ∧ Same H H' ∧ DtAt H' d N ((Bs.take i).foldl KM.lowB (KM.free N)))
      ⟨none, none, none, rfl, s2, h0⟩ (fun i σ' H' _ ⟨_, _, _, _, s, _⟩ => SqL.of (s _ _ hb.1)) ?_ ?_⟩
    · rintro i x0 σ' H' hx ⟨x3, x4, x5, rfl, s3, h3⟩
      obtain ⟨a, ha, rfl⟩ := get_ref hx
      obtain ⟨⟨i1, j1, c⟩, hb1, hb2⟩ := hb.2.get ha
      obtain ⟨in1, in2⟩ := hin _ (mem_get hb1)
      refine ⟨a, _, rfl, SqT.of (s3 _ _ hb2), rfl, _, _, rfl, _, _, rfl, _, _, rfl, rfl, ?_⟩
      refine low_step l7 in1 in2 s3 hd0 h3 (is_var rfl) (is_var rfl) (is_var rfl) (is_var rfl) fun H4 s4 h4 => ?_
      refine ⟨_, _, _, rfl, s4, ?_⟩
      rw [take_get hb1, List.foldl_append]
      exact h4
    rintro σ' H' ⟨x3, x4, x5, rfl, s3, h3⟩
    have lb := hb.2.len
    rw [List.length_map, lb, List.take_length] at h3
    have h3 : DtAt H' d N (KM.way0 N Bs) := h3
    -- the turns
    refine ⟨_, rfl, nl, rfl, ⟨_, SqL.of (s3 _ _ hN)⟩, for_list (xs := N.map V.str) (fun i σ' H' => ∃ x3 x4 x5 x6 x7, σ' = [some (.ref nl), some (.ref bl), some (.ref d), x3, x4, x5, x6, x7, none] ∧ Same H H' ∧ DtAt H' d N ((N.take i).foldl (KM.stK N) (KM.way0 N Bs)))
      ⟨_, _, _, _, _, rfl, s3, h3⟩ (fun i σ' H' _ ⟨_, _, _, _, _, _, s, _⟩ => SqL.of (s _ _ hN)) ?_ ?_⟩
    · rintro k x0 σ' H4 hk ⟨x3, x4, x5, x6, x7, rfl, s4, h4⟩
      obtain ⟨k, hk1, rfl⟩ := get_map hk
      have kN := mem_get hk1
      rw [take_get hk1, List.foldl_append]
      generalize (N.take _).foldl (KM.stK N) (KM.way0 N Bs) = Tk at h4
      refine ⟨_, rfl, nl, rfl, ⟨_, SqL.of (s4 _ _ hN)⟩, for_list (xs := N.map V.str) (fun i σ' H' => ∃ x3 x4 x5 x7, σ' = [some (.ref nl), some (.ref bl), some (.ref d), x3, x4, x5, some (.str k), x7, none] ∧ Same H H' ∧ DtAt H' d N ((N.take i).foldl (KM.stI N k) Tk))
        ⟨_, _, _, _, rfl, s4, h4⟩ (fun i σ' H' _ ⟨_, _, _, _, _, s, _⟩ => SqL.of (s _ _ hN)) ?_ ?_⟩
      · rintro i x0 σ' H5 hi ⟨x3, x4, x5, x7, rfl, s5, h5⟩
        obtain ⟨i1, hi1, rfl⟩ := get_map hi
        have iN := mem_get hi1
        rw [take_get hi1, List.foldl_append]
        generalize (N.take _).foldl (KM.stI N k) Tk = Ti at h5
        refine ⟨_, rfl, nl, rfl, ⟨_, SqL.of (s5 _ _ hN)⟩, for_list (xs := N.map V.str) (fun j σ' H' => ∃ x4 x5 x7, σ' = [some (.ref nl), some (.ref bl), some (.ref d), some (.str i1), x4, x5, some (.str k), x7, none] ∧ Same H H' ∧ DtAt H' d N ((N.take j).foldl (KM.stJ k i1) Ti))
          ⟨_, _, _, rfl, s5, h5⟩ (fun i σ' H' _ ⟨_, _, _, _, s, _⟩ => SqL.of (s _ _ hN)) ?_ ?_⟩
        · rintro j x0 σ' H6 hj ⟨x4, x5, x7, rfl, s6, h6⟩
          obtain ⟨j1, hj1, rfl⟩ := get_map hj
          have jN := mem_get hj1
          rw [take_get hj1, List.foldl_append]
          generalize (N.take _).foldl (KM.stJ k i1) Ti = Tj at h6
          obtain ⟨kvs, hd6, R⟩ := id h6
          show tIfS _ _ _ _ _ _
          refine u_if (u_and (u_B (r_in hd6 fun H7 s7 => ⟨_, rfl, ?_⟩)))
          rw [R.in_]
          cases e1 : Tj i1 k with
          | none =>
            refine iff0 rfl (iff0 rfl ⟨_, _, _, rfl, s6.trans s7, ?_⟩)
            have : KM.stJ k i1 Tj j1 = Tj := by unfold KM.stJ; rw [e1]
            show DtAt H7 d N (KM.stJ k i1 Tj j1)
            rw [this]; exact h6.mono s7
          | some a =>
            refine ift rfl (u_B (r_in (s7 _ _ hd6) fun H8 s8 => ⟨_, rfl, ?_⟩))
            have s78 := s7.trans s8
            rw [R.in_]
            cases e2 : Tj k j1 with
            | none =>
              refine iff0 rfl ⟨_, _, _, rfl, s6.trans s78, ?_⟩
              have : KM.stJ k i1 Tj j1 = Tj := by unfold KM.stJ; rw [e1, e2]
              show DtAt H8 d N (KM.stJ k i1 Tj j1)
              rw [this]; exact h6.mono s78
            | some b =>
              refine ift rfl ?_
              refine r_get (s78 _ _ hd6) (v := .int a) (by rw [R.val, e1]; rfl) fun H9 s9 => ?_
              have s79 := s78.trans s9
              refine r_get (s79 _ _ hd6) (v := .int b) (by rw [R.val, e2]; rfl) fun H10 s10 => ⟨_, _, rfl, rfl, ?_⟩
              have s710 := s79.trans s10
              refine low_step l7 iN jN (s6.trans s710) hd0 (h6.mono s710) (is_var rfl) (is_var rfl) (is_var rfl) (is_var rfl) fun H11 s11 h11 => ?_
              refine ⟨_, _, _, rfl, s11, ?_⟩
              have : KM.stJ k i1 Tj j1 = KM.low Tj i1 j1 (a + b) := by unfold KM.stJ; rw [e1, e2]
              show DtAt H11 d N (KM.stJ k i1 Tj j1)
              rw [this]; exact h11
        · rintro σ' H6 ⟨x4, x5, x7, rfl, s6, h6⟩
          rw [List.length_map, List.take_length] at h6
          exact ⟨_, _, _, _, rfl, s6, h6⟩
      · rintro σ' H5 ⟨x3, x4, x5, x7, rfl, s5, h5⟩
        rw [List.length_map, List.take_length] at h5
        exact ⟨_, _, _, _, _, rfl, s5, h5⟩
    rintro σ' H4 ⟨x3, x4, x5, x6, x7, rfl, s4, h4⟩
    rw [List.length_map, List.take_length] at h4
    have h4 : DtAt H4 d N (KM.wayK N Bs) := h4
    -- below 0?
    refine ⟨_, rfl, nl, rfl, ⟨_, SqL.of (s4 _ _ hN)⟩, for_list (xs := N.map V.str) (fun i σ' H' => ∃ x8, σ' = [some (.ref nl), some (.ref bl), some (.ref d), x3, x4, x5, x6, x7, x8] ∧ Same H H' ∧ DtAt H' d N (KM.wayK N Bs) ∧ ∀ x ∈ N.take i, ∀ w, KM.wayK N Bs x x = some w → ¬ w < 0)
      ⟨_, rfl, s4, h4, by simp⟩ (fun i σ' H' _ ⟨_, _, s, _⟩ => SqL.of (s _ _ hN)) ?_ ?_⟩
    · rintro i x0 σ' H5 hi ⟨x8, rfl, s5, h5, n5⟩
      obtain ⟨x, hx1, rfl⟩ := get_map hi
      have xN := mem_get hx1
      obtain ⟨kvs, hd5, R⟩ := id h5
      obtain ⟨t, et⟩ := wayK_diag (B := Bs) xN
      show tIfS _ _ _ _ _ _
      refine u_if (u_B (r_get hd5 (v := .int t) (by rw [R.val, et]; rfl) fun H6 s6 => ⟨_, _, rfl, rfl, _, rfl, ?_⟩))
      refine if2 (fun z => ?_) (fun z => ?_)
      · have z := of_decide_eq_true z
        refine q _ _ (s5.trans s6) ?_
        have : KM.ways N Bs = none := by unfold KM.ways; rw [if_pos ⟨x, xN, t, et, z⟩]
        rw [this]; exact rfl
      · have z := of_decide_eq_false z
        refine ⟨_, rfl, s5.trans s6, h5.mono s6, fun y hy w e => ?_⟩
        rw [take_get hx1] at hy
        rcases List.mem_append.mp hy with u | u
        · exact n5 y u w e
        · rw [List.mem_singleton.mp u, et] at e
          cases e; exact z
    · rintro σ' H5 ⟨x8, rfl, s5, ⟨kvs, h5, R⟩, n5⟩
      rw [List.length_map, List.take_length] at n5
      refine ⟨_, rfl, q _ _ s5 ?_⟩
      have : KM.ways N Bs = some (KM.wayK N Bs) := by
        unfold KM.ways
        rw [if_neg]
        rintro ⟨x, hx, w, e, l⟩
        exact n5 x hx w e l
      rw [this]
      exact ⟨d, kvs, rfl, h5, R⟩
end
end KD
set_option Elab.async false
set_option linter.all false
set_option maxRecDepth 100000
set_option maxHeartbeats 4000000
namespace KD
open PySem PySem.Spec PyProof.Rows L2 KT KR
theorem putK_new {κ : Type} [DecidableEq κ] {kvs : List (κ × V)} {k : κ} {v : V} (h : valV kvs k = none) : putK kvs k v = kvs ++ [(k, v)] := by
  unfold putK
  have : (kvs.any fun kv => decide (kv.1 = k)) = false := by rw [valV_any, h]; rfl
  rw [this]; rfl
theorem u_name {i : Nat} {v : V} {σ : L2.St} {H : Hp} {Q : L2.St → Hp → Prop} (h : Q (σ.set i (some v)) H) : gName i v σ H Q := h
theorem u_dput {td ty tv : TE} {D : Ends} {σ : L2.St} {H : Hp} (h : tv σ H fun v H1 => td σ H1 fun x H2 => ty σ H2 fun y H3 => ∃ a H4, x = .ref a ∧ DPut H3 a y v H4 ∧ D.nx σ H4) : sDPut td ty tv D σ H := h
section
variable {P : Program} {w : World} {K : PySem.W.Frag} {mg : Str → Option Value} {base : Heap} {f fI : Addr} {fd : FuncData} {C : Kd}
def spReach : Sp := fun vs H Q _ => ∃ sl S d T j far, vs = [.ref sl, .ref d, .str j, .int far] ∧ H sl = some (.lst (S.map V.str)) ∧ S.length ≤ 6 ∧ S.Nodup ∧ DtAt H d ("byte" :: S) T ∧ (∀ x ∈ ("byte" : Str) :: S, ∃ t, T "byte" x = some t) ∧ j ∈ ("byte" : Str) :: S ∧
  ∀ e kvs H', Same H H' → H' e = some (.dK kvs) → H e = none → kvs.length = S.length → (∀ x ∈ S, valV kvs (.inr x) = some (.int (KM.reach T "byte" j far x))) → (∀ x, x ∉ S → valV kvs (.inr x) = none) → Q (.ref e) H'
theorem sc_L_reaching : FnScope n_L_reaching p_L_reaching (defScope s_L_reaching) := ⟨rfl, rfl, rfl, by decide +kernel, rfl, by decide +kernel, by decide +kernel⟩
theorem ok_L_reaching (F : FnDf K "_law_reaching" "_law_reaching" s_L_reaching f fd) : FnOk P w K mg base CX0 1 f fd p_L_reaching spReach := by
  refine F.ok sc_L_reaching (fun vs H Q E h => ?_) (fun cdv A outer s H vs Q E hr h => ?_)
  · obtain ⟨sl, S, d, T, j, far, rfl, _⟩ := h; rfl
  · obtain ⟨sl, S, d, T, j, far, rfl, hS, l6, nd, hd, hz, hj, q⟩ := h
    have hu := hu_of hr
    have n := sc_L_reaching.nd
    refine ⟨_, PSs.nox (pss_cons (ps_set (i := 4) n rfl (.inl rfl) (pe_op op_sub pe_int (pe_dget hu (pv 1) (pe_tup (pa_cons pe_str (pa_cons (pv 2) pa_nil))) (fun _ _ => rfl))))
      (pss_cons (ps_set (i := 5) n rfl (.inl rfl) pe_dnewK)
      (pss_cons (ps_for PassesOwn.never rfl (pi_list (pv 0)) (pg_name (i := 6) n rfl (.inl rfl))
        (pss_cons (ps_set (i := 7) n rfl (.inl rfl) (pe_op op_sub pe_int (pe_dget hu (pv 1) (pe_tup (pa_cons pe_str (pa_cons (pv 6) pa_nil))) (fun _ _ => rfl))))
          (pss_one (ps_dput hu (pv 5) (pv 6) (pe_ifExp (pt_cmp (pc_din hu (pe_tup (pa_cons (pv 6) (pa_cons (pv 2) pa_nil))) (pv 1)) (by rfl)) (pe_op op_add (pv 4) (pe_dget hu (pv 1) (pe_tup (pa_cons (pv 6) (pa_cons (pv 2) pa_nil))) (fun _ _ => rfl))) (pe_op op_add (pv 7) (pv 3))) rfl))))
      (pss_one (ps_ret (pv 5)))))), ?_⟩
    obtain ⟨kvs0, hd0, R⟩ := hd
    obtain ⟨tj, ej⟩ := hz j hj
    refine r_get hd0 (v := .int tj) (by rw [R.val, ej]; rfl) fun H1 s1 => ⟨_, _, rfl, rfl, ?_⟩
    intro e he
    have s2 := s1.trans (same_new (o := .dK []) he)
    have he0 : H e = none := s1.free he
    refine ⟨_, rfl, sl, rfl, ⟨_, SqL.of (s2 _ _ hS)⟩, for_list (xs := S.map V.str) (fun i σ' H' => ∃ x6 x7 kvs, σ' = [some (.ref sl), some (.ref d), some (.str j), some (.int far), some (.int (0 - tj)), some (.ref e), x6, x7] ∧ Same H H' ∧ H' e = some (.dK kvs) ∧ kvs.length = i ∧
        (∀ x ∈ S.take i, valV kvs (.inr x) = some (.int (KM.reach T "byte" j far x))) ∧ (∀ x, x ∉ S.take i → valV kvs (.inr x) = none)) ⟨none, none, [], rfl, s2, upd_same, rfl, by simp, fun _ _ => rfl⟩ (fun i σ' H' _ ⟨_, _, _, _, s, _⟩ => SqL.of (s _ _ hS)) ?_ ?_⟩
    · rintro i x0 σ' H3 hx ⟨x6, x7, kvs, rfl, s3, h3, l3, v3, n3⟩
      obtain ⟨x, hx1, rfl⟩ := get_map hx
      have i6 := (List.getElem?_eq_some_iff.mp hx1).1
      obtain ⟨tx, ex⟩ := hz x (List.mem_cons_of_mem _ (mem_get hx1))
      refine r_get (s3 _ _ hd0) (v := .int tx) (by rw [R.val, ex]; rfl) fun H4 s4 => ⟨_, _, rfl, rfl, ?_⟩
      have nx := n3 x (take_not nd hx1)
      have fin : ∀ {H5 : Hp} {x7 : Option V} (v : Int), v = KM.reach T "byte" j far x → Same H3 H5 → ∃ x6 x7' kvs', [some (V.ref sl), some (V.ref d), some (V.str j), some (V.int far), some (V.int (0 - tj)), some (V.ref e), some (V.str x), x7] = [some (.ref sl), some (.ref d), some (.str j), some (.int far), some (.int (0 - tj)), some (.ref e), x6, x7'] ∧
          Same H (upd H5 e (.dK (putK kvs (.inr x) (.int v)))) ∧ upd H5 e (.dK (putK kvs (.inr x) (.int v))) e = some (.dK kvs') ∧ kvs'.length = i + 1 ∧
          (∀ y ∈ S.take (i + 1), valV kvs' (.inr y) = some (.int (KM.reach T "byte" j far y))) ∧ (∀ y, y ∉ S.take (i + 1) → valV kvs' (.inr y) = none) := fun {H5 x7} v hv s5 => by
        subst hv
        refine ⟨_, _, _, rfl, same_mut (s3.trans s5) he0, upd_same, by rw [putK_new nx, List.length_append, l3]; rfl, fun y hy => ?_, fun y hy => ?_⟩
        · rw [valV_put]
          rw [take_get hx1] at hy
          by_cases e1 : y = x
          · rw [if_pos (by rw [e1]), e1]
          · rw [if_neg (fun z => e1 (Sum.inr.inj z))]
            rcases List.mem_append.mp hy with u | u
            · exact v3 y u
            · exact absurd (List.mem_singleton.mp u) e1
        · rw [take_get hx1] at hy
          rw [valV_put, if_neg (fun z => hy (List.mem_append_right _ (List.mem_singleton.mpr (Sum.inr.inj z))))]
          exact n3 y fun z => hy (List.mem_append_left _ z)
      refine u_name ?_
      dsimp only
      refine u_dput ?_
      refine u_ie ?_
      refine u_B (r_in ((s3.trans s4) _ _ hd0) fun H5 s5 => ⟨_, rfl, ?_⟩)
      have s45 := s4.trans s5
      rw [R.in_]
      cases eT : T x j with
      | none =>
        refine iff0 rfl ⟨_, rfl, _, rfl, _, _, rfl, rfl, _, rfl, _, rfl, e, _, rfl, DPut.k (k := .inr x) (s45 _ _ h3) (small1000 (by omega)), ?_⟩
        have er : KM.reach T "byte" j far x = (0 - tx) + far := by unfold KM.reach; rw [eT, ex]; rfl
        exact fin _ er.symm s45
      | some t =>
        refine ift rfl ⟨_, rfl, r_get ((s3.trans s45) _ _ hd0) (v := .int t) (by rw [R.val, eT]; rfl) fun H6 s6 => ⟨_, _, rfl, rfl, _, rfl, _, rfl, e, _, rfl, DPut.k (k := .inr x) ((s45.trans s6) _ _ h3) (small1000 (by omega)), ?_⟩⟩
        have er : KM.reach T "byte" j far x = (0 - tj) + t := by unfold KM.reach; rw [eT, ej]; rfl
        exact fin _ er.symm (s45.trans s6)
    · rintro σ' H3 ⟨x6, x7, kvs, rfl, s3, h3, l3, v3, n3⟩
      rw [List.length_map] at l3 v3 n3
      rw [List.take_length] at v3 n3
      exact ⟨_, rfl, q e kvs _ s3 h3 he0 l3 v3 n3⟩
end
end KD
set_option Elab.async false
set_option linter.all false
set_option maxRecDepth 100000
set_option maxHeartbeats 4000000
namespace KD
open PySem PySem.Spec PyProof.Rows L2 KT KR
section
variable {X : Cx} {e : Expr} {te : TE} {pos : Pos}
/-- not e, by the truth of e -/
theorem pe_notTru {r : V → Hp → (Bool → Hp → Prop) → Prop} (ht : TruR X r) (he : PE X e te) : PE X (.UnaryOp .Not e pos) (fun σ H Q => te σ H fun x H1 => r x H1 fun b H2 => Q (.bl (!b)) H2) := by
  refine ⟨fun pins s σ H Q I h => ?_⟩
  refine UnaryOp_ (thn (he.run pins s σ H _ I h) fun v s1 ⟨x, H1, I1, r1, q1⟩ => ?_)
  exact not_of (thn (ht pins s1 σ H1 x v (fun c H2 => Q (.bl (!c)) H2) I1 r1 q1) fun c s2 ⟨H2, I2, q2⟩ => ⟨.bl (!c), H2, I2, rfl, q2⟩)
end
/-- bounds as data -/
def bdD (e : Bd) : PyData := .tuple [.str e.1, .str e.2.1, .int e.2.2]
theorem dpBds {K : PySem.W.Frag} {H : Hp} : ∀ {as : List Addr} {es : List Bd}, BdsAt H as es → DpAll K H (as.map V.ref) (es.map bdD)
  | _, _, .nil => .nil
  | _, _, .cons h t => .cons (.tup (SqT.of h) (.cons (.str _) (.cons (.str _) (.cons (.int _) .nil)))) (dpBds t)
theorem eqv_bds : ∀ es : List Bd, PyData.eqvAll (es.map bdD) (es.map bdD) = true
  | [] => rfl
  | e :: r => by
    rw [List.map_cons]
    show (PyData.eqv (bdD e) (bdD e) && PyData.eqvAll (r.map bdD) (r.map bdD)) = true
    rw [eqv_bds r]
    simp [bdD, PyData.eqv, PyData.eqvAll]
def lay (es : List Bd) : Prop := ∀ e ∈ es, PyData.strOk e.1 = true ∧ PyData.strOk e.2.1 = true
theorem sh_bds : ∀ es : List Bd, lay es → PyData.canLayAll0 (es.map bdD) = true ∧ PyData.depthAll (es.map bdD) ≤ 1
  | [], _ => ⟨rfl, by decide⟩
  | e :: r, h => by
    obtain ⟨h1, h2⟩ := sh_bds r fun x hx => h x (List.mem_cons_of_mem _ hx)
    obtain ⟨a, b⟩ := h e (List.mem_cons_self ..)
    rw [List.map_cons]
    refine ⟨?_, ?_⟩
    · show (PyData.canLay0 (bdD e) && PyData.canLayAll0 _) = true
      rw [h1]
      simp [bdD, PyData.canLay0, PyData.canLayAll0, a, b]
    · show max (PyData.depth (bdD e)) (PyData.depthAll _) ≤ 1
      have : (bdD e).depth = 1 := by simp [bdD, PyData.depth, PyData.depthAll]
      omega
theorem shaped_bds {es : List Bd} (h : lay es) : SeqAt.shaped (.list (es.map bdD)) = true := by
  obtain ⟨h1, h2⟩ := sh_bds es h
  unfold SeqAt.shaped
  have a : PyData.canLay0 (.list (es.map bdD)) = true := h1
  have b : PyData.depth (.list (es.map bdD)) ≤ 64 := by show PyData.depthAll _ + 1 ≤ 64; omega
  rw [a, decide_eq_true b]; rfl
theorem strOk_app {x y : Str} (h : PyData.strOk x = true) (h' : PyData.strOk y = true) : PyData.strOk (x ++ y) = true := by
  unfold PyData.strOk at *
  rw [← Array.all_toList, List.all_eq_true] at *
  intro c hc
  rw [cps_app] at hc
  exact (List.mem_append.mp hc).elim (h c) (h' c)
theorem strOk_nms {ks : List Kn} (ok : KsOk ks) {x : Str} (hx : x ∈ nms ks) : PyData.strOk x = true := by
  rcases List.mem_cons.mp hx with rfl | h
  · decide +kernel
  · obtain ⟨k, hk, h⟩ := List.mem_flatMap.mp h
    have := strOk_of (ok.nm k hk).low
    simp only [sclK, List.mem_cons, List.not_mem_nil, or_false] at h
    rcases h with rfl | rfl
    · exact strOk_app (by decide +kernel) this
    · exact strOk_app (by decide +kernel) this
theorem lay_diffs {ks : List Kn} (ok : KsOk ks) {T : Tb} {is : List Str} (h : ∀ x ∈ is, x ∈ nms ks) : lay (diffs (nms ks) T is) := fun e he => by
  obtain ⟨i, hi, he⟩ := List.mem_flatMap.mp he
  obtain ⟨j, hj, he⟩ := List.mem_filterMap.mp he
  split at he
  · cases he
  · cases eT : T i j with
    | none => rw [eT] at he; cases he
    | some c =>
      rw [eT] at he
      cases he
      exact ⟨strOk_nms ok (h i hi), strOk_nms ok hj⟩
section
variable {P : Program} {w : World} {K : PySem.W.Frag} {mg : Str → Option Value} {base : Heap} {f fI fb : Addr} {fd fdb : FuncData} {C : Kd}
/-- z.bounds() as it is called -/
def BoOk (P : Program) (w : World) (K : PySem.W.Frag) (mg : Str → Option Value) (base : Heap) (C : Kd) : Prop := ∃ fb fdb, Meth K C.zone "bounds" fb ∧ GFn P w K mg base 4 fb fdb p_Zone_bounds (spBounds C.kind C.zone) ∧ Binds K fdb p_Zone_bounds []
def spTold (cK cZ : Addr) : Sp := fun vs H Q _ => ∃ z nl v kas ks told T, vs = [.ref z, .ref nl, v] ∧ ZoneAt cK cZ H z kas ks told T ∧ ZOk ks told T ∧ H nl = some (.lst ((nms ks).map V.str)) ∧ TabAt H v (nms ks) T ∧ ∀ H', Same H H' → Q (.bl true) H'
theorem sc_L_is_told : FnScope n_L_is_told p_L_is_told (defScope s_L_is_told) := ⟨rfl, rfl, rfl, by decide +kernel, rfl, by decide +kernel, by decide +kernel⟩
theorem ok_L_is_told (B : Blt mg) (Z : ZnOk K C.zone) (MB : Md P w K mg base CX0 1 C.zone "__bool__" (spTruth C.kind C.zone)) (BO : BoOk P w K mg base C) (F : FnDf K "_law_is_told" "_law_is_told" s_L_is_told f fd) :
    FnOk P w K mg base CX0 8 f fd p_L_is_told (spTold C.kind C.zone) := by
  refine F.ok sc_L_is_told (fun vs H Q E h => ?_) (fun cdv A outer s H vs Q E hr h => ?_)
  · obtain ⟨z, nl, v, kas, ks, told, T, rfl, _⟩ := h; rfl
  · obtain ⟨z, nl, v, kas, ks, told, T, rfl, hz, zk, hN, hv, q⟩ := h
    have hu := hu_of hr
    have n := sc_L_is_told.nd
    obtain ⟨fb, fdb, mb, FB, bb⟩ := BO
    refine ⟨_, PSs.nox (pss_ct (ps_if (PW.pt (pw_or (pt_cmp (pc_isN (pv 2)) rfl) (pw_or1 (pt_not (pt_tru (tru_I (E := E0) MB (hr.mono (by decide)) pass0) (pv 0))))))
        (pss_one (ps_ret (pe_and (pe_cmp (pc_isN (pv 2)) rfl) (pe_one (pe_notTru (tru_I (E := E0) MB (hr.mono (by decide)) pass0) (pv 0))))))
        pss_nil)
      (pss_cons (ps_set (i := 3) n rfl (.inl rfl) (pe_lst pa_nil))
      (pss_cons (ps_for PassesOwn.never rfl (pi_list (pv 1)) (pg_name (i := 4) n rfl (.inr rfl))
        (pss_one (ps_set (i := 3) n rfl (.inl rfl) (pe_op op_cat (pv 3) (pe_lc (own := [("_law_j", 5)]) (g := gName 5) rfl n (pi_list (pv 1)) (blkOk_by (N := n_L_is_told) (sc := defScope s_L_is_told) (by decide +kernel)) (fun _ _ _ _ _ => (pg_name (i := 5) n rfl (.inl rfl))) (fun _ _ _ _ _ => (pts_one (PW.pt (pw_and (pt_cmpR op_ne (pv 4) (pv 5) (nomark _)) (pw_and1 (pt_cmp (pc_din hu (pe_tup (pa_cons (pv 4) (pa_cons (pv 5) pa_nil))) (pv 2)) (by rfl))))))) (fun _ _ _ _ _ => (pe_tup (pa_cons (pv 4) (pa_cons (pv 5) (pa_cons (pe_dget hu (pv 2) (pe_tup (pa_cons (pv 4) (pa_cons (pv 5) pa_nil))) (fun _ _ => rfl)) pa_nil))))))))))
      (pss_one (ps_ret (pe_cmpR (op_eqD hr.units) (pe_listG (pgen_meth0 (E := E0) (pv 0) Z.cl mb FB (hr.mono (by decide)) bb .nil) passL (fun _ _ _ h => h.elim) (hr.mono (by decide)) (by rfl) B.list (by decide +kernel)) (pv 3) (nomark _))))))), ?_⟩
    obtain ⟨dx, kt, st, nt, tt, tv, bas0, h1, hrest⟩ := id hz
    refine ⟨fun σ' H' => σ' = [some (.ref z), some (.ref nl), some v, none, none, none] ∧ Same H H' ∧ ∃ T1, T = some T1, ?_, ?_⟩
    · cases T with
      | none =>
        obtain rfl : v = .non := hv
        exact u_if (u_or (u_B ⟨_, rfl, _, rfl, ift rfl (ift rfl ⟨_, rfl, _, rfl, ift rfl ⟨_, rfl, z, dx, _, rfl, h1, z, kas, ks, told, none, rfl, hz, _, rfl, q _ (Same.refl _)⟩⟩)⟩))
      | some T1 =>
        obtain ⟨d, kvs, rfl, hd, R⟩ := hv
        exact u_if (u_or (u_B ⟨_, rfl, _, rfl, iff0 rfl (u_not ⟨_, rfl, z, dx, _, rfl, h1, z, kas, ks, told, some T1, rfl, hz, _, rfl, iff0 rfl ⟨rfl, Same.refl _, T1, rfl⟩⟩)⟩))
    rintro σ1 H1 ⟨rfl, s1, T1, rfl⟩
    obtain ⟨d, kvs, rfl, hd, R⟩ := hv
    have l7 := zk.l7
    refine ⟨by decide, fun r0 hr0 => ?_⟩
    have s2 := s1.trans (same_new (o := .lst []) hr0)
    refine ⟨_, rfl, nl, rfl, ⟨_, SqL.of (s2 _ _ hN)⟩, for_list (xs := (nms ks).map V.str) (fun i σ' H' => ∃ r x bas, σ' = [some (.ref z), some (.ref nl), some (.ref d), some (.ref r), x, none] ∧ Same H H' ∧ H' r = some (.lst (bas.map V.ref)) ∧ BdsAt H' bas (diffs (nms ks) T1 ((nms ks).take i)))
      ⟨r0, none, [], rfl, s2, upd_same, by rw [List.take_zero]; exact .nil⟩ (fun i σ' H' _ ⟨_, _, _, _, s, _⟩ => SqL.of (s _ _ hN)) ?_ ?_⟩
    · rintro i x0 σ' H3 hx ⟨r, x, bas, rfl, s3, h3, b3⟩
      obtain ⟨x, hx1, rfl⟩ := get_map hx
      refine ⟨_, rfl, _, rfl, nl, rfl, ⟨_, SqL.of (s3 _ _ hN)⟩, fun D hD => ?_⟩
      refine lp_it (walk_list (xs := (nms ks).map V.str)) (fun l H' => Same H3 H' ∧ ∃ bas, H' D = some (.lst (bas.map V.ref)) ∧ BdsAt (hide D H') bas (diffRow T1 x ((nms ks).take l))) ⟨same_new hD, [], upd_same, by rw [List.take_zero]; exact .nil⟩ (fun m H' _ h => SqL.of (h.1 _ _ (s3 _ _ hN))) ?_ ?_
      · rintro l y0 H4 H4' hl ⟨s4, bas4, h4, b4⟩ ⟨rfl, hy⟩
        obtain ⟨y, hy1, rfl⟩ := get_map hy
        refine ⟨rfl, ?_⟩
        have len := b4.len
        have l2 := diffRow_len T1 x ((nms ks).take l)
        rw [List.length_take] at l2
        rw [diffRow_take hy1]
        have hd4 := s4 _ _ (s3 _ _ hd)
        refine u_and ⟨_, rfl, _, rfl, rfl, _, rfl, ?_⟩
        by_cases e : x = y
        · subst e
          refine iff0 (by simp) (iff0 rfl ⟨s4, bas4, h4, ?_⟩)
          rw [if_pos rfl]
          simpa using b4
        · refine ift (by simpa using e) (u_B (r_in hd4 fun H5 s5 => ⟨_, rfl, ?_⟩))
          rw [R.in_]
          cases eT : T1 x y with
          | none =>
            refine iff0 rfl ⟨s4.trans s5, bas4, s5 _ _ h4, ?_⟩
            rw [if_neg e]
            simpa using b4.mono (hide_mono s5)
          | some c =>
            have h5 := s5 _ _ h4
            refine ift rfl ⟨_, rfl, _, rfl, r_get (s5 _ _ hd4) (v := .int c) (by rw [R.val, eT]; rfl) fun H6 s6 => ⟨three_ok, fun p hp => ?_⟩⟩
            have s7 := s6.trans (same_new (o := .tup [.str x, .str y, .int c]) hp)
            refine ⟨_, s7 _ _ h5, ?_, same_mut (s4.trans (s5.trans s7)) hD, bas4 ++ [p], ?_, ?_⟩
            · rw [List.length_map, sizeLine_eq]; omega
            · rw [upd_same, List.map_append]; rfl
            · rw [if_neg e, hide_upd]
              exact (b4.mono (hide_mono (s5.trans s7))).app (.cons (hide_new (s6 _ _ h5) hp) .nil)
      · rintro H4 ⟨s4, bas4, h4, b4⟩
        rw [List.length_map, List.take_length] at b4
        have len := b3.len
        have len4 := b4.len
        have l1 := diffs_len (nms ks) T1 ((nms ks).take i)
        have l2 := diffRow_len T1 x (nms ks)
        rw [List.length_take] at l1
        have l3 : min i (nms ks).length * (nms ks).length ≤ 7 * 7 := Nat.mul_le_mul (by omega) l7
        refine ⟨r, D, _, _, rfl, rfl, s4 _ _ h3, h4, by rw [List.length_map, List.length_map, sizeLine_eq]; omega, fun r2 hr2 => ?_⟩
        have s5 := same_new (o := .lst (bas.map V.ref ++ bas4.map V.ref)) hr2
        refine ⟨r2, _, bas ++ bas4, rfl, s3.trans (s4.trans s5), by rw [upd_same, List.map_append], ?_⟩
        rw [diffs_take hx1]
        exact (b3.mono (s4.trans s5)).app ((b4.mono hide_same).mono s5)
    · rintro σ' H3 ⟨r, x, bas, rfl, s3, h3, b3⟩
      rw [List.length_map, List.take_length] at b3
      obtain h1' := s3 _ _ h1
      refine ⟨_, rfl, z, dx, _, rfl, h1', rfl, z, kas, ks, told, T1, rfl, hz.mono s3, zk, fun bas5 H5 s5 b5 => ?_⟩
      intro p hp
      have s6 := same_new (o := .lst (bas5.map V.ref)) hp
      have sh := shaped_bds (lay_diffs zk.kk (T := T1) (is := nms ks) fun x h => h)
      refine ⟨_, rfl, _, _, .lst (SqL.of upd_same) (dpBds (b5.mono s6)), .lst (SqL.of (s6 _ _ (s5 _ _ h3))) (dpBds (b3.mono (s5.trans s6))), sh, sh, ?_⟩
      have : PyData.eqv (.list ((diffs (nms ks) T1 (nms ks)).map bdD)) (.list ((diffs (nms ks) T1 (nms ks)).map bdD)) = true := eqv_bds _
      rw [this]
      exact q _ (s3.trans (s5.trans s6))
end
end KD
set_option Elab.async false
set_option linter.all false
set_option maxRecDepth 100000
set_option maxHeartbeats 4000000
namespace KD
open PySem PySem.Spec PyProof.Rows L2 KT KR
def prD (e : Str × Str) : PyData := .tuple [.str e.1, .str e.2]
abbrev PrAt (H : Hp) (a : Addr) (e : Str × Str) : Prop := H a = some (.tup [.str e.1, .str e.2])
def PrsAt (H : Hp) (as : List Addr) (es : List (Str × Str)) : Prop := Paired (PrAt H) as es
theorem dpPrs {K : PySem.W.Frag} {H : Hp} : ∀ {as : List Addr} {es : List (Str × Str)}, PrsAt H as es → DpAll K H (as.map V.ref) (es.map prD)
  | _, _, .nil => .nil
  | _, _, .cons h t => .cons (.tup (SqT.of h) (.cons (.str _) (.cons (.str _) .nil))) (dpPrs t)
theorem PrsAt.mono {H H' : Hp} {as : List Addr} {es : List (Str × Str)} (s : Same H H') (h : PrsAt H as es) : PrsAt H' as es := Paired.mono (fun _ _ q => s _ _ q) h
theorem sh_prs : ∀ es : List (Str × Str), (∀ e ∈ es, PyData.strOk e.1 = true ∧ PyData.strOk e.2 = true) → PyData.canLayAll0 (es.map prD) = true ∧ PyData.depthAll (es.map prD) ≤ 1
  | [], _ => ⟨rfl, by decide⟩
  | e :: r, h => by
    obtain ⟨h1, h2⟩ := sh_prs r fun x hx => h x (List.mem_cons_of_mem _ hx)
    obtain ⟨a, b⟩ := h e (List.mem_cons_self ..)
    rw [List.map_cons]
    refine ⟨?_, ?_⟩
    · show (PyData.canLay0 (prD e) && PyData.canLayAll0 _) = true
      rw [h1]
      simp [prD, PyData.canLay0, PyData.canLayAll0, a, b]
    · show max (PyData.depth (prD e)) (PyData.depthAll _) ≤ 1
      have : (prD e).depth = 1 := by simp [prD, PyData.depth, PyData.depthAll]
      omega
theorem shaped_prs {es : List (Str × Str)} (h : ∀ e ∈ es, PyData.strOk e.1 = true ∧ PyData.strOk e.2 = true) : SeqAt.shaped (.list (es.map prD)) = true := by
  obtain ⟨h1, h2⟩ := sh_prs es h
  unfold SeqAt.shaped
  have a : PyData.canLay0 (.list (es.map prD)) = true := h1
  have b : PyData.depth (.list (es.map prD)) ≤ 64 := by show PyData.depthAll _ + 1 ≤ 64; omega
  rw [a, decide_eq_true b]; rfl
theorem eqv_prs (es : List (Str × Str)) : PyData.eqv (.list (es.map prD)) (.list []) = decide (es = []) := by
  cases es <;> rfl
section
variable {P : Program} {w : World} {K : PySem.W.Frag} {mg : Str → Option Value} {base : Heap} {f fI : Addr} {fd : FuncData} {C : Kd}
def spLWithin : Sp := fun vs H Q _ => ∃ v v' N T T', vs = [v, v'] ∧ TabAt H v N T ∧ TabAt H v' N T' ∧ N.length ≤ 7 ∧ (∀ x ∈ N, PyData.strOk x = true) ∧ ∀ H' (b : Bool), Same H H' → (b = true ↔ KM.leT T T') → Q (.bl b) H'
theorem sc_L_within : FnScope n_L_within p_L_within (defScope s_L_within) := ⟨rfl, rfl, rfl, by decide +kernel, rfl, by decide +kernel, by decide +kernel⟩
theorem ok_L_within (F : FnDf K "_law_within" "_law_within" s_L_within f fd) : FnOk P w K mg base CX0 1 f fd p_L_within spLWithin := by
  refine F.ok sc_L_within (fun vs H Q E h => ?_) (fun cdv A outer s H vs Q E hr h => ?_)
  · obtain ⟨v, v', N, T, T', rfl, _⟩ := h; rfl
  · obtain ⟨v, v', N, T, T', rfl, hv, hv', l7, sok, q⟩ := h
    have hu := hu_of hr
    have n := sc_L_within.nd
    refine ⟨_, PSs.nox (pss_ct (ps_if (PW.pt (pw_or (pt_cmp (pc_isN (pv 0)) rfl) (pw_or1 (pt_cmp (pc_isN (pv 1)) rfl))))
        (pss_one (ps_ret (pe_cmp (pc_isN (pv 0)) rfl)))
        pss_nil)
      (pss_one (ps_ret (pe_cmpR (op_eqD hr.units) (pe_lock (pe_lc (own := [("_law_pair", 2)]) (g := gName 2) rfl n (pi_keys (pv 1)) (blkOk_by (N := n_L_within) (sc := defScope s_L_within) (by decide +kernel)) (fun _ _ _ _ _ => (pg_name (i := 2) n rfl (.inl rfl))) (fun _ _ _ _ _ => (pts_one (PW.pt (pw_or (pt_cmp (pc_dnotin hu (pv 2) (pv 0)) (by rfl)) (pw_or1 (pt_cmpR op_gt (pe_dget hu (pv 0) (pv 2) (fun _ _ => rfl)) (pe_dget hu (pv 1) (pv 2) (fun _ _ => rfl)) (nomark _))))))) (fun _ _ _ _ _ => (pv 2)))) (pe_lst pa_nil) (nomark _))))), ?_⟩
    cases T with
    | none =>
      obtain rfl : v = .non := hv
      refine ⟨fun _ _ => False, ⟨_, rfl, _, rfl, ift rfl (ift rfl ⟨_, rfl, q _ true (Same.refl _) ?_⟩)⟩, fun _ _ z => z.elim⟩
      cases T' <;> simp [KM.leT]
    | some T =>
    obtain ⟨d1, kvs1, rfl, hd1, R1⟩ := hv
    cases T' with
    | none =>
      obtain rfl : v' = .non := hv'
      refine ⟨fun _ _ => False, ⟨_, rfl, _, rfl, iff0 rfl ⟨_, rfl, _, rfl, ift rfl ⟨_, rfl, q _ false (Same.refl _) ?_⟩⟩⟩, fun _ _ z => z.elim⟩
      simp [KM.leT]
    | some T' =>
    obtain ⟨d2, kvs2, rfl, hd2, R2⟩ := hv'
    refine ⟨fun σ' H' => σ' = [some (.ref d1), some (.ref d2), none] ∧ H' = H, ⟨_, rfl, _, rfl, iff0 rfl ⟨_, rfl, _, rfl, iff0 rfl ⟨rfl, rfl⟩⟩⟩, ?_⟩
    rintro σ1 H1 ⟨rfl, rfl⟩
    refine ⟨d2, _, hd2, True.intro, fun od => ?_⟩
    have rd1 : Rd (upd H1 d2 (.frz od (.dT kvs2))) d1 (.dT kvs1) := by
      by_cases e : d1 = d2
      · subst e
        rw [hd1] at hd2; cases hd2
        exact .inr ⟨od, upd_same⟩
      · exact .inl (by rw [upd_ne e]; exact hd1)
    have rd2 : upd H1 d2 (.frz od (.dT kvs2)) d2 = some (.frz od (.dT kvs2)) := upd_same
    have back : ∀ H', Same (upd H1 d2 (.frz od (.dT kvs2))) H' → Same H1 (upd H' d2 (.dT kvs2)) := fun H' s b o hb => by
      by_cases e : b = d2
      · subst e; rw [hd2] at hb; rw [upd_same]; exact hb
      · rw [upd_ne e]
        exact s b o (by rw [upd_ne e]; exact hb)
    generalize upd H1 d2 (.frz od (.dT kvs2)) = H2 at rd1 rd2 back
    have rdm : ∀ {H' : Hp}, Same H2 H' → Rd H' d1 (.dT kvs1) := fun s => rd1.elim (fun e => .inl (s _ _ e)) fun ⟨o, e⟩ => .inr ⟨o, s _ _ e⟩
    have len2 : kvs2.length ≤ 49 := R2.len l7
    refine ⟨_, rfl, d2, od, rfl, .inr ⟨kvs2, rd2, fun D hD => ?_⟩⟩
    refine lp_it (walk_keysT (kvs := kvs2)) (fun m H' => Same H2 H' ∧ ∃ qs es, H' D = some (.lst (qs.map V.ref)) ∧ PrsAt (hide D H') qs es ∧ es.length ≤ m ∧ (∀ e ∈ es, e.1 ∈ N ∧ e.2 ∈ N) ∧ (es = [] ↔ ∀ p ∈ kvs2.take m, Good T p))
      ⟨same_new hD, [], [], upd_same, .nil, Nat.le_refl _, fun _ z => (nomatch z), by simp⟩ (fun m H' _ h => h.1 _ _ rd2) ?_ ?_
    · rintro m x0 H3 H4 hm ⟨s3, qs, es, h3D, pr, hl, hN, hb⟩ ⟨rfl, k, v, qa, hk, rfl, hq⟩
      obtain ⟨x, y, wt, hx, hy, e, hT'⟩ := R2.at_ (mem_get hk)
      injection e with ek ev
      subst ek ev
      have lq := pr.length
      have g1 : DGet H4 d1 (.ref qa) (valV kvs1 (ky x y)) := .inr ⟨kvs1, ky x y, qa, rdm s3, rfl, hq, rfl⟩
      have g2 : DGet H4 d2 (.ref qa) (some (.int wt)) := .inr ⟨kvs2, ky x y, qa, .inr ⟨od, s3 _ _ rd2⟩, rfl, hq, by rw [R2.val, hT']; rfl⟩
      have qD : qa ≠ D := fun e => by rw [e, h3D] at hq; cases hq
      have yes : ¬ Good T (ky x y, V.int wt) → ∃ acc, H4 D = some (.lst acc) ∧ acc.length < sizeLine ∧ (Same H2 (upd H4 D (.lst (acc ++ [V.ref qa]))) ∧ ∃ qs es, upd H4 D (.lst (acc ++ [V.ref qa])) D = some (.lst (qs.map V.ref)) ∧ PrsAt (hide D (upd H4 D (.lst (acc ++ [V.ref qa])))) qs es ∧ es.length ≤ m + 1 ∧ (∀ e ∈ es, e.1 ∈ N ∧ e.2 ∈ N) ∧ (es = [] ↔ ∀ p ∈ kvs2.take (m + 1), Good T p)) := fun ng => by
        refine ⟨_, h3D, by rw [List.length_map, lq, sizeLine_eq]; omega, same_mut s3 hD, qs ++ [qa], es ++ [(x, y)], by rw [upd_same, List.map_append]; rfl, ?_, by simp; omega, ?_, ?_⟩
        · rw [hide_upd]
          refine Paired.app pr (.cons ?_ .nil)
          show hide D H4 qa = _
          rw [hide_ne qD]; exact hq
        · intro e he
          rcases List.mem_append.mp he with z | z
          · exact hN e z
          · rw [List.mem_singleton.mp z]; exact ⟨hx, hy⟩
        · rw [take_get hk]
          refine ⟨fun z => by simp at z, fun z => absurd (z _ (List.mem_append_right _ (List.mem_singleton.mpr rfl))) ng⟩
      have no : Good T (ky x y, V.int wt) → (Same H2 H4 ∧ ∃ qs es, H4 D = some (.lst (qs.map V.ref)) ∧ PrsAt (hide D H4) qs es ∧ es.length ≤ m + 1 ∧ (∀ e ∈ es, e.1 ∈ N ∧ e.2 ∈ N) ∧ (es = [] ↔ ∀ p ∈ kvs2.take (m + 1), Good T p)) := fun g => by
        refine ⟨s3, qs, es, h3D, pr, by omega, hN, ?_⟩
        rw [hb, take_get hk]
        constructor
        · intro z p hp
          rcases List.mem_append.mp hp with u | u
          · exact z p u
          · rw [List.mem_singleton.mp u]; exact g
        · intro z p hp
          exact z p (List.mem_append_left _ hp)
      refine ⟨rfl, u_or (u_B ⟨_, rfl, _, rfl, d1, _, rfl, g1, _, rfl, ?_⟩)⟩
      rw [R1.val]
      cases hT : T x y with
      | none =>
        refine ift rfl (ift rfl ⟨_, rfl, yes fun g => ?_⟩)
        obtain ⟨t, e, _⟩ := g x y wt rfl
        rw [hT] at e; cases e
      | some t =>
        rw [R1.val, hT] at g1
        refine iff0 rfl (u_B ⟨_, rfl, _, rfl, d1, _, rfl, g1, _, rfl, _, rfl, d2, _, rfl, g2, _, _, rfl, rfl, _, rfl, ?_⟩)
        refine if2 (fun z => ⟨_, rfl, yes fun g => ?_⟩) (fun z => no fun x' y' w' e => ?_)
        · obtain ⟨t', e, l⟩ := g x y wt rfl
          rw [hT] at e; cases e
          have := of_decide_eq_true z
          omega
        · injection e with e1 e2
          obtain ⟨rfl, rfl⟩ := ky_inj e1
          injection e2 with e2
          subst e2
          exact ⟨t, hT, by have := of_decide_eq_false z; omega⟩
    · rintro H3 ⟨s3, qs, es, h3D, pr, hl, hN, hb⟩
      refine ⟨s3 _ _ rd2, ?_⟩
      rw [List.take_length] at hb
      have sB := back _ s3
      have Dn : D ≠ d2 := fun e => by rw [e, s3 _ _ rd2] at h3D; cases h3D
      have pr2 : PrsAt (upd H3 d2 (.dT kvs2)) qs es := Paired.mono (fun a e q => by
        have q := hide_same _ _ q
        show upd H3 d2 (.dT kvs2) a = _
        rw [upd_ne (fun z => by rw [z, s3 _ _ rd2] at q; cases q)]; exact q) pr
      refine ⟨by decide, fun p hp => ?_⟩
      have s4 := same_new (o := .lst []) hp
      refine ⟨_, _, .lst (SqL.of (s4 _ _ (by rw [upd_ne Dn]; exact h3D))) (dpPrs (pr2.mono s4)), .lst (SqL.of upd_same) .nil, shaped_prs fun e he => ⟨sok _ (hN e he).1, sok _ (hN e he).2⟩, rfl, ?_⟩
      rw [eqv_prs]
      refine q _ _ (sB.trans s4) ?_
      rw [decide_eq_true_iff, hb]
      exact good_all R2
end
end KD
set_option Elab.async false
set_option linter.all false
set_option maxRecDepth 100000
set_option maxHeartbeats 4000000
namespace KD
open PySem PySem.Spec PyProof.Rows L2 KT KR
structure ZoOk (K : PySem.W.Frag) (cZ : Addr) : Prop where
  self : PySem.W.selfFirst K cZ = true
  ne : PySem.W.findIn K (.ref cZ) "__ne__" = some (some (.builtin "object.__ne__"))
  nfZ : PySem.W.notFirst K cZ (.ref cZ) = true
  nfN : PySem.W.notFirst K cZ (.type "NoneType") = true
  nfS : PySem.W.notFirst K cZ (.type "str") = true
  nfT : PySem.W.notFirst K cZ (.type "tuple") = true
  iand : ∃ cd, PySem.W.clsIn K cZ = some cd ∧ (cd.mro.all fun v => decide (PySem.W.findIn K v "__iand__" = some none)) = true
/-- a zone with its bounds and its table -/
def Zo (cK cZ : Addr) (kas : List Addr) (ks : List Kn) (H : Hp) (z : Addr) (told : List Bd) (T : Option Tb) : Prop := ZoneAt cK cZ H z kas ks told T ∧ ZOk ks told T
theorem Zo.mono {cK cZ : Addr} {kas : List Addr} {ks : List Kn} {H H' : Hp} {z : Addr} {told : List Bd} {T : Option Tb} (s : Same H H') (h : Zo cK cZ kas ks H z told T) : Zo cK cZ kas ks H' z told T := ⟨h.1.mono s, h.2⟩
section
variable {P : Program} {w : World} {K : PySem.W.Frag} {mg : Str → Option Value} {base : Heap} {C : Kd} {cN : Addr}
/-- the zone's defs as they are called -/
structure ZoM (P : Program) (w : World) (K : PySem.W.Frag) (mg : Str → Option Value) (base : Heap) (C : Kd) (cN : Addr) : Prop where
  and_ : Md P w K mg base (L2.CX P w) 6 C.zone "__and__" (spAnd C.kind C.zone cN)
  le : Md P w K mg base (L2.CX P w) 5 C.zone "__le__" (spLe C.kind C.zone cN)
  eq : Md P w K mg base CX0 4 C.zone "__eq__" (spZeq C.kind C.zone)
  con : Md P w K mg base CX0 3 C.zone "__contains__" (spCon C.kind C.zone)
  tru : Md P w K mg base CX0 1 C.zone "__bool__" (spTruth C.kind C.zone)
  sides : Md P w K mg base CX0 7 C.zone "sides" (spSides C.kind C.zone)
end
section
variable {X : Cx} {C : Kd} {cN : Addr}
theorem op_andZ (O : ZoOk X.K C.zone) (M : ZoM X.prog X.w X.K X.mg X.base C cN) (hr : Room 6 X.A) : OpR X (binaryOp .BitAnd) (rBinI C.zone (spAnd C.kind C.zone cN) E0) := op_binI (op := .BitAnd) (CX := L2.CX X.prog X.w) O.self M.and_ hr passL
theorem ip_andZ (O : ZoOk X.K C.zone) (M : ZoM X.prog X.w X.K X.mg X.base C cN) (hr : Room 6 X.A) : PIp X .BitAnd (rBinI C.zone (spAnd C.kind C.zone cN) E0) := ip_binI (op := .BitAnd) (CX := L2.CX X.prog X.w) (by decide) O.iand O.self M.and_ hr passL
theorem op_leZ (M : ZoM X.prog X.w X.K X.mg X.base C cN) (hr : Room 5 X.A) : OpR X (compareOp .LtE) (rCmpI X.K C.zone (spLe C.kind C.zone cN) E0) := op_cmpI (op := .LtE) (CX := L2.CX X.prog X.w) (fun _ _ => rfl) M.le hr passL
theorem op_eqZ (M : ZoM X.prog X.w X.K X.mg X.base C cN) (hr : Room 4 X.A) : OpR X (compareOp .Eq) (rCmpI X.K C.zone (spZeq C.kind C.zone) E0) := op_cmpI (op := .Eq) (CX := CX0) (fun _ _ => rfl) M.eq hr pass0
theorem op_neZ (O : ZoOk X.K C.zone) (Y : ZgOk X.K X.mg C) (M : ZoM X.prog X.w X.K X.mg X.base C cN) (hr : Room 5 X.A) : OpR X (compareOp .NotEq) (rNeI X.K C.zone (spZeq C.kind C.zone) E0) := op_neI (CX := CX0) O.ne Y.kl.hm M.eq hr pass0
theorem op_inZ (M : ZoM X.prog X.w X.K X.mg X.base C cN) (hr : Room 3 X.A) : OpR X (compareOp .In) (rInI C.zone (spCon C.kind C.zone) E0) := op_inI (CX := CX0) M.con hr pass0
theorem tr_Z (M : ZoM X.prog X.w X.K X.mg X.base C cN) (hr : Room 1 X.A) : TruR X (rTruI C.zone (spTruth C.kind C.zone) E0) := tru_I (CX := CX0) M.tru hr pass0
end
section
variable {K : PySem.W.Frag} {mg : Str → Option Value} {C : Kd} {cN : Addr} {kas : List Addr} {ks : List Kn} {H : Hp} {z z' : Addr} {told told' : List Bd} {T T' : Option Tb} {Q : VK}
theorem and_at (h : Zo C.kind C.zone kas ks H z told T) (h' : Zo C.kind C.zone kas ks H z' told' T') (len : told.length + told'.length ≤ 1000)
    (k : ∀ z2 T2 H', Same H H' → Zo C.kind C.zone kas ks H' z2 (told ++ told') T2 → Q (.ref z2) H') : rBinI C.zone (spAnd C.kind C.zone cN) E0 (.ref z) (.ref z') H Q := by
  obtain ⟨dx, kt, st, nt, tt, tv, bas, h1, _⟩ := id h.1
  obtain ⟨dx', kt', st', nt', tt', tv', bas', h1', _⟩ := id h'.1
  exact ⟨z, dx, _, z', dx', _, rfl, rfl, h1, h1', z, z', kas, kas, ks, ks, told, told', T, T', rfl, h.1, h'.1, h.2, h'.2, len, .inl ⟨rfl, rfl, fun z2 H' s hz => k z2 _ H' s ⟨hz, h.2.more h'.2.inn⟩⟩⟩
theorem le_at (Y : ZgOk K mg C) (O : ZoOk K C.zone) (h : Zo C.kind C.zone kas ks H z told T) (h' : Zo C.kind C.zone kas ks H z' told' T') (k : ∀ H' (b : Bool), Same H H' → (b = true ↔ KM.leT T T') → Q (.bl b) H') :
    rCmpI K C.zone (spLe C.kind C.zone cN) E0 (.ref z) (.ref z') H Q := by
  obtain ⟨dx, kt, st, nt, tt, tv, bas, h1, _⟩ := id h.1
  obtain ⟨dx', kt', st', nt', tt', tv', bas', h1', _⟩ := id h'.1
  exact ⟨z, dx, _, _, rfl, h1, Y.kl.ty h1', O.nfZ, z, z', kas, kas, ks, ks, told, told', T, T', rfl, h.1, h'.1, h.2, h'.2, .inl ⟨rfl, rfl, k⟩⟩
theorem eq_at (Y : ZgOk K mg C) (O : ZoOk K C.zone) (h : Zo C.kind C.zone kas ks H z told T) (h' : Zo C.kind C.zone kas ks H z' told' T') (k : ∀ H' (b : Bool), Same H H' → (b = true ↔ T = T') → Q (.bl b) H') :
    rCmpI K C.zone (spZeq C.kind C.zone) E0 (.ref z) (.ref z') H Q := by
  obtain ⟨dx, kt, st, nt, tt, tv, bas, h1, _⟩ := id h.1
  obtain ⟨dx', kt', st', nt', tt', tv', bas', h1', _⟩ := id h'.1
  exact ⟨z, dx, _, _, rfl, h1, Y.kl.ty h1', O.nfZ, z, kas, ks, told, T, _, rfl, h.1, h.2, .inl ⟨z', kas, ks, told', T', rfl, h'.1, h'.2, .inl ⟨rfl, rfl, k⟩⟩⟩
/-- z != z', same tables -/
theorem ne_at (Y : ZgOk K mg C) (O : ZoOk K C.zone) (h : Zo C.kind C.zone kas ks H z told T) (h' : Zo C.kind C.zone kas ks H z' told' T) (k : ∀ H', Same H H' → Q (.bl false) H') :
    rNeI K C.zone (spZeq C.kind C.zone) E0 (.ref z) (.ref z') H Q := by
  obtain ⟨dx, kt, st, nt, tt, tv, bas, h1, _⟩ := id h.1
  obtain ⟨dx', kt', st', nt', tt', tv', bas', h1', _⟩ := id h'.1
  exact ⟨z, dx, _, _, rfl, h1, Y.kl.ty h1', O.nfZ, z, kas, ks, told, T, _, rfl, h.1, h.2, .inl ⟨z', kas, ks, told', T, rfl, h'.1, h'.2, .inl ⟨rfl, rfl, fun H' b s e => ⟨b, rfl, by rw [e.mpr rfl]; exact k H' s⟩⟩⟩⟩
theorem in_at {d : Addr} {p : Str → Int} (h : Zo C.kind C.zone kas ks H z told T) (len : told.length ≤ 1000) (hp : PtAt H d (scl ks) p) (k : ∀ H', Same H H' → Q (.bl (inPt told p)) H') :
    rInI C.zone (spCon C.kind C.zone) E0 (.ref d) (.ref z) H Q := by
  obtain ⟨dx, kt, st, nt, tt, tv, bas, h1, _⟩ := id h.1
  exact ⟨z, dx, _, rfl, h1, z, kas, ks, told, T, d, p, rfl, h.1, h.2, len, hp, fun H' s => ⟨_, rfl, k H' s⟩⟩
theorem tru_at {R : Bool → Hp → Prop} (h : Zo C.kind C.zone kas ks H z told T) (k : R T.isSome H) : rTruI C.zone (spTruth C.kind C.zone) E0 (.ref z) H R := by
  obtain ⟨dx, kt, st, nt, tt, tv, bas, h1, _⟩ := id h.1
  exact ⟨z, dx, _, rfl, h1, z, kas, ks, told, T, rfl, h.1, _, rfl, k⟩
end
/-- same bounds as sets: same table -/
theorem zo_tab {ks : List Kn} {told told' : List Bd} {T T' : Option Tb} (h : ZOk ks told T) (h' : ZOk ks told' T') (e : ∀ b, b ∈ told ↔ b ∈ told') : T = T' := KM.Clo.uniq h.clo h'.clo e
/-- the law's own ways are the zone's table -/
theorem ways_tab {ks : List Kn} {told B : List Bd} {T : Option Tb} (h : ZOk ks told T) (hB : KM.In (nms ks) B) (e : ∀ b, b ∈ told ↔ b ∈ B) : KM.ways (nms ks) B = T := KM.Clo.uniq (KM.ways_clo hB) h.clo fun b => (e b).symm
end KD
set_option Elab.async false
set_option linter.all false
set_option maxRecDepth 100000
set_option maxHeartbeats 4000000
namespace KD
open PySem PySem.Spec PyProof.Rows L2 KT KR
theorem cat_at {H : Hp} {a b : Addr} {as bs : List Addr} {es fs : List Bd} {Q : VK} (h : BlAt H a as es) (h' : BlAt H b bs fs) (len : es.length + fs.length ≤ 1000) (k : ∀ p H', Same H H' → BlAt H' p (as ++ bs) (es ++ fs) → Q (.ref p) H') : rCat (.ref a) (.ref b) H Q := by
  have l1 := h.2.len
  have l2 := h'.2.len
  refine ⟨a, b, _, _, rfl, rfl, h.1, h'.1, by rw [List.length_map, List.length_map, sizeLine_eq]; omega, fun p hp => ?_⟩
  have s := same_new (o := .lst (as.map V.ref ++ bs.map V.ref)) hp
  exact k p _ s ⟨by rw [upd_same, List.map_append], (h.2.mono s).app (h'.2.mono s)⟩
/-- what stands in a turn of the law -/
structure Trio (cK cZ : Addr) (H : Hp) (kas : List Addr) (ks : List Kn) (nl ol zl ll : Addr) (oas : List Addr) (z l : Nat → Addr) (b : Nat → List Bd) (T : Nat → Option Tb) : Prop where
  kk : KsOk ks
  nm : H nl = some (.lst ((nms ks).map V.str))
  ow : BlAt H ol oas (own ks)
  zs : H zl = some (.lst [.ref (z 0), .ref (z 1), .ref (z 2)])
  ls : H ll = some (.lst [.ref (l 0), .ref (l 1), .ref (l 2)])
  zo : ∀ i, i < 3 → Zo cK cZ kas ks H (z i) (own ks ++ b i) (T i)
  bl : ∀ i, i < 3 → ∃ bas, BlAt H (l i) bas (b i)
  inn : ∀ i, i < 3 → KM.In (nms ks) (b i)
  len : ∀ i, i < 3 → (b i).length ≤ 30
theorem Trio.mono {cK cZ : Addr} {H H' : Hp} {kas : List Addr} {ks : List Kn} {nl ol zl ll : Addr} {oas : List Addr} {z l : Nat → Addr} {b : Nat → List Bd} {T : Nat → Option Tb} (s : Same H H') (h : Trio cK cZ H kas ks nl ol zl ll oas z l b T) : Trio cK cZ H' kas ks nl ol zl ll oas z l b T :=
  ⟨h.kk, s _ _ h.nm, h.ow.mono s, s _ _ h.zs, s _ _ h.ls, fun i hi => (h.zo i hi).mono s, fun i hi => let ⟨x, q⟩ := h.bl i hi; ⟨x, q.mono s⟩, h.inn, h.len⟩
theorem in_app {N : List Str} {a b : List Bd} (h : KM.In N a) (h' : KM.In N b) : KM.In N (a ++ b) := fun e he => (List.mem_append.mp he).elim (h e) (h' e)
section
variable {P : Program} {w : World} {K : PySem.W.Frag} {mg : Str → Option Value} {base : Heap} {f fI : Addr} {fd : FuncData} {C : Kd} {cN : Addr}
def spJoinedR (cK cZ : Addr) : Sp := fun vs H Q _ => ∃ kas ks nl ol zl ll oas z l b T, vs = [.ref zl, .ref nl, .ref ol, .ref ll] ∧ Trio cK cZ H kas ks nl ol zl ll oas z l b T ∧ ∀ H', Same H H' → Q (.bl true) H'
theorem sc_L_joined_right : FnScope n_L_joined_right p_L_joined_right (defScope s_L_joined_right) := ⟨rfl, rfl, rfl, by decide +kernel, rfl, by decide +kernel, by decide +kernel⟩
theorem ok_L_joined_right (Y : ZgOk K mg C) (O : ZoOk K C.zone) (M : ZoM P w K mg base C cN) (G_L_is_told : Fd P w K mg base CX0 8 "_law_is_told" (spTold C.kind C.zone)) (G_L_ways : Fd P w K mg base CX0 1 "_law_ways" spWays)
    (F : FnDf K "_law_joined_right" "_law_joined_right" s_L_joined_right f fd) : FnOk P w K mg base CX0 9 f fd p_L_joined_right (spJoinedR C.kind C.zone) := by
  refine F.ok sc_L_joined_right (fun vs H Q E h => ?_) (fun cdv A outer s H vs Q E hr h => ?_)
  · obtain ⟨kas, ks, nl, ol, zl, ll, oas, z, l, b, T, rfl, _⟩ := h; rfl
  · obtain ⟨kas, ks, nl, ol, zl, ll, oas, z, l, b, T, rfl, t, q⟩ := h
    have hu := hu_of hr
    have n := sc_L_joined_right.nd
    refine ⟨_, PSs.nox (pss_cons (ps_asg (pv 0) (pg_lst rfl (pgs_cons (pg_name (i := 4) n rfl (.inl rfl)) (pgs_cons (pg_name (i := 5) n rfl (.inl rfl)) (pgs_cons (pg_name (i := 6) n rfl (.inl rfl)) pgs_nil)))))
      (pss_cons (ps_set (i := 7) n rfl (.inl rfl) (pe_op (op_andZ O M (hr.mono (by decide))) (pv 4) (pv 5)))
      (pss_ct (ps_if (pt_not (pt_val (pe_d G_L_is_told (hr.mono (by decide)) pass0 (pa_cons (pv 7) (pa_cons (pv 1) (pa_cons (pe_d G_L_ways (hr.mono (by decide)) pass0 (pa_cons (pv 1) (pa_cons (pe_op op_cat (pe_op op_cat (pv 2) (pe_ix ix_list (pv 3) pe_int (fun _ _ => rfl))) (pe_ix ix_list (pv 3) pe_int (fun _ _ => rfl))) pa_nil))) pa_nil))))))
        (pss_one (ps_ret pe_bl))
        pss_nil)
      (pss_ct (ps_if (PW.pt (pw_or (pt_cmpR (op_neZ O Y M (hr.mono (by decide))) (pv 7) (pe_op (op_andZ O M (hr.mono (by decide))) (pv 5) (pv 4)) (nomark _)) (pw_or (pt_cmpR (op_neZ O Y M (hr.mono (by decide))) (pe_op (op_andZ O M (hr.mono (by decide))) (pv 4) (pv 4)) (pv 4) (nomark _)) (pw_or1 (pt_cmpR (op_neZ O Y M (hr.mono (by decide))) (pe_op (op_andZ O M (hr.mono (by decide))) (pv 7) (pv 4)) (pv 7) (nomark _))))))
        (pss_one (ps_ret pe_bl))
        pss_nil)
      (pss_cons (ps_set (i := 8) n rfl (.inl rfl) (pe_d G_L_ways (hr.mono (by decide)) pass0 (pa_cons (pv 1) (pa_cons (pe_op op_cat (pe_op op_cat (pe_op op_cat (pv 2) (pe_ix ix_list (pv 3) pe_int (fun _ _ => rfl))) (pe_ix ix_list (pv 3) pe_int (fun _ _ => rfl))) (pe_ix ix_list (pv 3) pe_int (fun _ _ => rfl))) pa_nil))))
      (pss_ct (ps_if (PW.pt (pw_or (pt_not (pt_val (pe_d G_L_is_told (hr.mono (by decide)) pass0 (pa_cons (pe_op (op_andZ O M (hr.mono (by decide))) (pv 7) (pv 6)) (pa_cons (pv 1) (pa_cons (pv 8) pa_nil)))))) (pw_or1 (pt_cmpR (op_neZ O Y M (hr.mono (by decide))) (pe_op (op_andZ O M (hr.mono (by decide))) (pv 4) (pe_op (op_andZ O M (hr.mono (by decide))) (pv 5) (pv 6))) (pe_op (op_andZ O M (hr.mono (by decide))) (pv 6) (pv 7)) (nomark _)))))
        (pss_one (ps_ret pe_bl))
        pss_nil)
      (pss_cons (ps_set (i := 9) n rfl (.inl rfl) (pv 4))
      (pss_cons (ps_aug (i := 4) n rfl (.inl rfl) (pv 5) (ip_andZ O M (hr.mono (by decide))))
      (pss_one (ps_ret (pe_and (pe_cmpR (op_eqZ M (hr.mono (by decide))) (pv 4) (pv 7) (nomark _)) (pe_and (pe_cmpR (op_eqZ M (hr.mono (by decide))) (pv 9) (pe_ix ix_list (pv 0) pe_int (fun _ _ => rfl)) (nomark _)) (pe_one (pe_cmpR (op_leZ M (hr.mono (by decide))) (pv 9) (pe_ix ix_list (pv 0) pe_int (fun _ _ => rfl)) (nomark _))))))))))))))), ?_⟩
    have l0 := t.len 0 (by decide)
    have l1 := t.len 1 (by decide)
    have l2 := t.len 2 (by decide)
    have lo : (own ks).length ≤ 9 := by rw [own_len]; have := t.kk.le; omega
    have len : ∀ i, i < 3 → (own ks ++ b i).length ≤ 39 := fun i hi => by rw [List.length_append]; have := t.len i hi; omega
    have len0 := len 0 (by decide)
    have len1 := len 1 (by decide)
    have len2 := len 2 (by decide)
    have l7 : (nms ks).length ≤ 7 := by rw [nms_len]; have := t.kk.le; omega
    have i0 := t.inn 0 (by decide)
    have i1 := t.inn 1 (by decide)
    have i2 := t.inn 2 (by decide)
    refine ⟨_, rfl, zl, _, rfl, SqL.of t.zs, rfl, _, _, rfl, _, _, rfl, _, _, rfl, rfl, ?_⟩
    -- both
    refine ⟨_, rfl, _, rfl, and_at (t.zo 0 (by decide)) (t.zo 1 (by decide)) (by omega) fun zb Tb1 H1 s1 zb1 => ?_⟩
    have t1 := t.mono s1
    refine ⟨fun σ' H' => σ' = [some (.ref zl), some (.ref nl), some (.ref ol), some (.ref ll), some (.ref (z 0)), some (.ref (z 1)), some (.ref (z 2)), some (.ref zb), none, none] ∧ Same H1 H', ?_, ?_⟩
    · refine u_if (u_not (u_B ?_))
      obtain ⟨ba0, bl0⟩ := t1.bl 0 (by decide)
      obtain ⟨ba1, bl1⟩ := t1.bl 1 (by decide)
      refine ⟨_, rfl, _, rfl, _, rfl, _, rfl, _, rfl, ll, _, _, _, rfl, rfl, SqL.of t1.ls, rfl, cat_at t1.ow bl0 (by omega) fun p1 H2 s2 q1 => ?_⟩
      refine ⟨_, rfl, ll, _, _, _, rfl, rfl, SqL.of (s2 _ _ t1.ls), rfl, cat_at q1 ⟨s2 _ _ bl1.1, bl1.2.mono s2⟩ (by rw [List.length_append]; omega) fun p2 H3 s3 q2 => ?_⟩
      have s23 := s2.trans s3
      refine ⟨nl, nms ks, p2, _, _, rfl, s23 _ _ t1.nm, l7, q2, in_app (in_app (own_in ks) i0) i1, fun v H4 s4 hv => ?_⟩
      have s24 := s23.trans s4
      have ew := ways_tab zb1.2 (in_app (in_app (own_in ks) i0) i1) (fun e => by simp only [List.mem_append]; exact ⟨fun h => by rcases h with (a | a) | (a | a) <;> simp [a], fun h => by rcases h with (a | a) | a <;> simp [a]⟩)
      rw [ew] at hv
      exact ⟨zb, nl, v, kas, ks, _, Tb1, rfl, zb1.1.mono s24, zb1.2, s24 _ _ t1.nm, hv, fun H5 s5 => ⟨true, rfl, iff0 rfl ⟨rfl, s24.trans s5⟩⟩⟩
    rintro σ2 H2 ⟨rfl, s2⟩
    have t2 := t1.mono s2
    have zb2 := zb1.mono s2
    have lb : (own ks ++ b 0 ++ (own ks ++ b 1)).length ≤ 78 := by rw [List.length_append]; omega
    refine ⟨fun σ' H' => σ' = [some (.ref zl), some (.ref nl), some (.ref ol), some (.ref ll), some (.ref (z 0)), some (.ref (z 1)), some (.ref (z 2)), some (.ref zb), none, none] ∧ Same H2 H', ?_, ?_⟩
    · refine u_if (u_or (u_B ?_))
      refine ⟨_, rfl, _, rfl, _, rfl, and_at (t2.zo 1 (by decide)) (t2.zo 0 (by decide)) (by omega) fun y1 U1 H3 s3 z3 => ?_⟩
      obtain rfl := zo_tab zb2.2 z3.2 (fun e => by simp only [List.mem_append]; exact ⟨fun h => by rcases h with (a | a) | (a | a) <;> simp [a], fun h => by rcases h with (a | a) | (a | a) <;> simp [a]⟩)
      refine ne_at Y O (zb2.mono s3) z3 fun H4 s4 => ⟨_, rfl, iff0 rfl ?_⟩
      have s34 := s3.trans s4
      refine u_or (u_B ?_)
      refine ⟨_, rfl, _, rfl, and_at ((t2.zo 0 (by decide)).mono s34) ((t2.zo 0 (by decide)).mono s34) (by omega) fun y2 U2 H5 s5 z5 => ?_⟩
      obtain rfl := zo_tab ((t2.zo 0 (by decide)).2) z5.2 (fun e => by simp only [List.mem_append]; exact ⟨fun h => by rcases h with a | a <;> simp [a], fun h => by rcases h with (a | a) | (a | a) <;> simp [a]⟩)
      refine ⟨_, rfl, ne_at Y O z5 ((t2.zo 0 (by decide)).mono (s34.trans s5)) fun H6 s6 => ⟨_, rfl, iff0 rfl ?_⟩⟩
      have s36 := s34.trans (s5.trans s6)
      refine u_B ?_
      refine ⟨_, rfl, _, rfl, and_at (zb2.mono s36) ((t2.zo 0 (by decide)).mono s36) (by omega) fun y3 U3 H7 s7 z7 => ?_⟩
      obtain rfl := zo_tab zb2.2 z7.2 (fun e => by simp only [List.mem_append]; exact ⟨fun h => by rcases h with (a | a) | (a | a) <;> simp [a], fun h => by rcases h with ((a | a) | (a | a)) | (a | a) <;> simp [a]⟩)
      refine ⟨_, rfl, ne_at Y O z7 (zb2.mono (s36.trans s7)) fun H8 s8 => ⟨_, rfl, iff0 rfl ⟨rfl, s36.trans (s7.trans s8)⟩⟩⟩
    rintro σ3 H3 ⟨rfl, s3⟩
    have t3 := t2.mono s3
    have zb3 := zb2.mono s3
    -- every
    obtain ⟨ba0, bl0⟩ := t3.bl 0 (by decide)
    obtain ⟨ba1, bl1⟩ := t3.bl 1 (by decide)
    obtain ⟨ba2, bl2⟩ := t3.bl 2 (by decide)
    refine ⟨_, rfl, _, rfl, _, rfl, ll, _, _, _, rfl, rfl, SqL.of t3.ls, rfl, cat_at t3.ow bl0 (by omega) fun p1 H4 s4 q1 => ?_⟩
    refine ⟨_, rfl, ll, _, _, _, rfl, rfl, SqL.of (s4 _ _ t3.ls), rfl, cat_at q1 (bl1.mono s4) (by rw [List.length_append]; omega) fun p2 H5 s5 q2 => ?_⟩
    have s45 := s4.trans s5
    refine ⟨_, rfl, ll, _, _, _, rfl, rfl, SqL.of (s45 _ _ t3.ls), rfl, cat_at q2 (bl2.mono s45) (by rw [List.length_append, List.length_append]; omega) fun p3 H6 s6 q3 => ?_⟩
    have s46 := s45.trans s6
    have inE := in_app (in_app (in_app (own_in ks) i0) i1) i2
    refine ⟨nl, nms ks, p3, _, _, rfl, s46 _ _ t3.nm, l7, q3, inE, fun v H7 s7 hv => ?_⟩
    have t7 := t3.mono (s46.trans s7)
    have zb7 := zb3.mono (s46.trans s7)
    refine ⟨fun σ' H' => σ' = [some (.ref zl), some (.ref nl), some (.ref ol), some (.ref ll), some (.ref (z 0)), some (.ref (z 1)), some (.ref (z 2)), some (.ref zb), some v, none] ∧ Same H7 H', ?_, ?_⟩
    · refine u_if (u_or (u_not (u_B ?_)))
      refine ⟨_, rfl, _, rfl, and_at zb7 (t7.zo 2 (by decide)) (by omega) fun y1 U1 H8 s8 z8 => ?_⟩
      have ew := ways_tab z8.2 inE (fun e => by simp only [List.mem_append]; exact ⟨fun h => by rcases h with ((a | a) | (a | a)) | (a | a) <;> simp [a], fun h => by rcases h with ((a | a) | a) | a <;> simp [a]⟩)
      rw [ew] at hv
      refine ⟨_, rfl, _, rfl, y1, nl, v, kas, ks, _, U1, rfl, z8.1, z8.2, s8 _ _ t7.nm, hv.mono s8, fun H9 s9 => ⟨true, rfl, iff0 rfl ?_⟩⟩
      have s89 := s8.trans s9
      refine u_B ?_
      refine ⟨_, rfl, _, rfl, _, rfl, and_at ((t7.zo 1 (by decide)).mono s89) ((t7.zo 2 (by decide)).mono s89) (by omega) fun y2 U2 H10 s10 z10 => ?_⟩
      have s810 := s89.trans s10
      refine and_at ((t7.zo 0 (by decide)).mono s810) z10 (by rw [List.length_append (as := own ks ++ b 1)]; omega) fun y3 U3 H11 s11 z11 => ?_
      have s811 := s810.trans s11
      refine ⟨_, rfl, _, rfl, and_at ((t7.zo 2 (by decide)).mono s811) (zb7.mono s811) (by omega) fun y4 U4 H12 s12 z12 => ?_⟩
      obtain rfl := zo_tab z11.2 z12.2 (fun e => by simp only [List.mem_append]; exact ⟨fun h => by rcases h with (a | a) | ((a | a) | (a | a)) <;> simp [a], fun h => by rcases h with (a | a) | ((a | a) | (a | a)) <;> simp [a]⟩)
      exact ne_at Y O (z11.mono s12) z12 fun H13 s13 => ⟨_, rfl, iff0 rfl ⟨rfl, s811.trans (s12.trans s13)⟩⟩
    rintro σ8 H8 ⟨rfl, s8⟩
    have t8 := t7.mono s8
    have zb8 := zb7.mono s8
    refine ⟨_, rfl, ?_⟩
    refine ⟨_, rfl, _, rfl, and_at (t8.zo 0 (by decide)) (t8.zo 1 (by decide)) (by omega) fun y1 U1 H9 s9 z9 => ?_⟩
    refine ⟨_, rfl, _, rfl, eq_at Y O z9 (zb8.mono s9) fun H10 b10 s10 e10 => ?_⟩
    have := e10.mpr (zo_tab z9.2 zb8.2 fun _ => Iff.rfl)
    subst this
    refine ⟨_, rfl, ift rfl ?_⟩
    have t10 := t8.mono (s9.trans s10)
    refine ⟨_, rfl, _, rfl, zl, _, _, _, rfl, rfl, SqL.of t10.zs, rfl, eq_at Y O (t10.zo 0 (by decide)) (t10.zo 0 (by decide)) fun H11 b11 s11 e11 => ?_⟩
    have := e11.mpr rfl
    subst this
    refine ⟨_, rfl, ift rfl ?_⟩
    have t11 := t10.mono s11
    refine ⟨_, rfl, _, rfl, zl, _, _, _, rfl, rfl, SqL.of t11.zs, rfl, le_at Y O (t11.zo 0 (by decide)) (t11.zo 0 (by decide)) fun H12 b12 s12 e12 => ?_⟩
    have := e12.mpr (KM.leT_refl _)
    subst this
    exact q _ (s1.trans (s2.trans (s3.trans ((s46.trans s7).trans (s8.trans ((s9.trans s10).trans (s11.trans s12)))))))
end
end KD
set_option Elab.async false
set_option linter.all false
set_option maxRecDepth 100000
set_option maxHeartbeats 4000000
namespace KR
open PySem PySem.Spec PyProof.Rows L2
section
variable {X : Cx}
theorem call_reprL (hg : X.A.guards = some []) (hu : X.A.units + 64 < cLine) : CallR X (.builtin "repr") (fun xs H Q => ∃ (a : Addr) (d : PyData), xs = [.ref a] ∧ Dp X.K H (.ref a) d ∧ d.showable = true ∧ d.hasDict = false ∧ d.depth ≤ 10 ∧ d.shown.length ≤ sizeLine ∧ Q (.str d.shown) H) := by
  intro pins s σ H xs us Q I r h
  obtain ⟨a, d, rfl, hd, hs, hn, hdp, hz, q⟩ := h
  obtain ⟨u, rfl, ru⟩ := vals1 r
  obtain rfl : u = Value.ref a := ru
  obtain ⟨as, rd⟩ := Dp.reads I d (.ref a) (.ref a) hd rfl
  exact repr_of_reads' (h₀ := s.heap) rd hs (fun z => by rw [hn] at z; cases z) hg (by omega) (fun _ _ e => e) (fun h' u tk k => ⟨.str d.shown, H, I.kept (t' := tk) k, ⟨u, rfl⟩, q⟩) hz
end
/-- a def's promise where no repr is under way -/
structure FnG (P : Program) (w : World) (K : PySem.W.Frag) (mg : Str → Option Value) (base : Heap) (CX : CXT) (k : Nat) (f : Addr) (fd : FuncData) (ps : List Str) (sp : Sp) : Prop where
  len : ∀ vs H Q E, sp vs H Q E → vs.length = ps.length
  run : ∀ (A : Around) (outer : List Env) (s : Shared) (H : Hp) (args : Args) (us : List Value) (vs : List V) (Q : VK) (E : XK), A.guards = some [] → Room k A → Env0 P w K mg base A outer s H → BindsTo s fd args (ps.zip us) → Vals vs us → sp vs H Q E →
    codeAny (model P w) A (.call (.ref f) args) (CR CX outer P w H s Q E) s
section
variable {P : Program} {w : World} {K : PySem.W.Frag} {mg : Str → Option Value} {base : Heap} {x qual : Str} {params : Arguments} {body : List Stmt} {scope : Scope} {dvs : List V} {kws : List (Str × V)} {f : Addr} {fd : FuncData}
theorem okG {CX : CXT} {N ps : List Str} {k : Nat} {sp : Sp} (F : FunD K x qual params body scope dvs kws f fd) (S : FnScope N ps scope) (len : ∀ vs H Q E, sp vs H Q E → vs.length = ps.length)
    (hbody : ∀ (cdv : Value) (A : Around) (outer : List Env) (s : Shared) (H : Hp) (vs : List V) (Q : VK) (E : XK), A.guards = some [] → Room k (A.deeper (envOfC qual scope s.heap.objs.size f cdv)) → sp vs H Q E →
      ∃ t, PSs (cxOf CX P w K mg base N qual scope f cdv A outer s H E) body t ∧ t { nx := fun _ H' => Q .non H', rt := Q } (start N vs) H) : FnG P w K mg base CX (k + 1) f fd ps sp := by
  obtain ⟨oc, od, dV, kV, doc, pm, an, cdv, ct, osl, rfl, lk, hcd, _, _⟩ := F.ex
  refine ⟨len, fun A outer s H args us vs Q E hg hr e0 hb r hsp => ?_⟩
  have hl := len _ _ _ _ hsp
  have KX : K.In s.heap := e0.mod.kin.keeps fun b o e => (e0.bs b o e).1
  have lim : s.heap.NoLimit := e0.mod.nolimit.keeps fun b o e => (e0.bs b o e).1
  have hkind : ∀ y ∈ ps.zip us, scope.names.lookup y.1 = some .local ∨ (scope.names.lookup y.1 = some .cell ∧ ((cellsFrom (s.heap.objs.size + 1) scope.names []).lookup y.1).isSome = true) := fun ⟨n, v⟩ hy => by
    rcases S.par n (List.of_mem_zip hy).1 with q | q
    · exact .inl q
    · exact .inr ⟨q, PySem.W.cellsFrom_some _ _ _ (.inl q)⟩
  refine codeAny_call_function hr.depth (KX _ _ lk) rfl S.co S.gen rfl (PySem.W.codeRec_of KX hcd) (hb _ _ _ _ ?_)
  refine wpAny_newFunctionEnv_cells S.kind hkind fun env he s1 x => ?_
  subst he
  refine ⟨lim.keeps x.toInCall.keep, codeAny_func ?_⟩
  obtain ⟨t, ht, hq⟩ := hbody cdv A outer s H vs Q E hg (hr.deeper _) hsp
  have I : Inv (cxOf CX P w K mg base N qual scope f cdv A outer s H E) [] (start N vs) H s1 := inv_start S hr.hd e0 hl r x
  refine wpAny_mono (ht.run [] s1 (start N vs) H _ I hq) (fun fl s' hs => ?_) fun e s' hs => hs
  cases fl with
  | ret u =>
    obtain ⟨v, σ', H', J, rv, q⟩ := hs
    exact ⟨v, H', J.os, J.bare, J.base, J.hok, rv, q⟩
  | next =>
    obtain ⟨σ', H', J, q⟩ := hs
    exact ⟨V.non, H', J.os, J.bare, J.base, J.hok, rfl, q⟩
  | brk =>
    obtain ⟨_, _, _, q⟩ := hs
    exact False.elim q
  | cont =>
    obtain ⟨_, _, _, q⟩ := hs
    exact False.elim q
end
/-- a def of the module by its name, no repr under way -/
def FdG (P : Program) (w : World) (K : PySem.W.Frag) (mg : Str → Option Value) (base : Heap) (CX : CXT) (k : Nat) (x : Str) (sp : Sp) : Prop :=
  ∃ (f : Addr) (fd : FuncData) (ps : List Str), mg x = some (.ref f) ∧ PySem.W.keepIn K (.ref f) = true ∧ FnG P w K mg base CX k f fd ps sp ∧ L2.Binds K fd ps []
section
variable {X : Cx} {CX : CXT} {k : Nat} {sp : Sp} {E : XK} {x : Str} {e : Expr} {es : List Expr} {t : TA} {p pos : Pos}
theorem pe_dG (F : FdG X.prog X.w X.K X.mg X.base CX k x sp) (hg0 : X.A.guards = some []) (hr : Room k X.A) (hx : Passes CX X E) (ha : PA X (e :: es) t) (hg : Gl X x := by rfl) (hdb : (x == ("__debug__" : Str)) = false := by decide)
    (he : starEach (e :: es) X.env = (false, eval e X.env) :: starEach es X.env := by rfl) (hpl : (backTo pos (starEach es X.env)).any (·.1) = false := by rfl) :
    PE X (.Call (.Name x p) (e :: es) [] pos) (tCR sp E t) := by
  refine ⟨fun pins s σ H Q I h => ?_⟩
  obtain ⟨f, fd, ps, hm, hk, hF, hb⟩ := F
  refine wpAny_Call_Name_kw (ld_glob I hg hm ?_ hdb)
  refine PySem.W.callWith_K (h₀ := X.base) I.ok.mod.kin hk (thn (ha.run pos pins s σ H _ I h) fun us s1 ⟨vs, H1, I1, r, q⟩ => ⟨I1.kIn, ?_⟩) he hpl
  refine wpAny_call (codeAny_mono (hF.run X.A X.stack s1 H1 ⟨us, []⟩ us vs Q E hg0 hr I1.env0 ?_ r q) fun r s' hq => ?_)
  · have := hb s1 us I1.kIn (by rw [List.append_nil]; rw [← hF.len _ _ _ _ q]; exact (Paired.length r).symm)
    rw [List.append_nil] at this
    exact this
  · cases r with
    | error e => exact hx pins σ H1 s1 e s' I1 hq
    | ok fl =>
      cases fl with
      | ret u => exact I1.after hq
      | next => exact False.elim hq
      | brk => exact False.elim hq
      | cont => exact False.elim hq
end
end KR
set_option Elab.async false
set_option linter.all false
set_option maxRecDepth 100000
set_option maxHeartbeats 4000000
namespace KD
open PySem PySem.Spec PyProof.Rows L2 KT KR
def b2D (a b : Bool) : PyData := .list [.bool a, .bool b]
theorem b2_ok (a b : Bool) : (b2D a b).showable = true ∧ (b2D a b).hasDict = false ∧ (b2D a b).depth ≤ 10 ∧ (b2D a b).shown.length ≤ 20 := by
  cases a <;> cases b <;> decide +kernel
theorem bool_iff {a b : Bool} {p : Prop} (h : a = true ↔ p) (h' : b = true ↔ p) : a = b := by
  cases a <;> cases b <;> simp_all
section
variable {P : Program} {w : World} {K : PySem.W.Frag} {mg : Str → Option Value} {base : Heap} {f fI : Addr} {fd : FuncData} {C : Kd} {cN : Addr}
theorem b2_len (a b : Bool) : (b2D a b).shown.length ≤ sizeLine := Nat.le_trans (b2_ok a b).2.2.2 (by rw [sizeLine_eq]; decide)
def spCmp (cK cZ : Addr) : Sp := fun vs H Q _ => ∃ kas ks z z' v v' b b' T T', vs = [.ref z, .ref z', v, v'] ∧ Zo cK cZ kas ks H z b T ∧ Zo cK cZ kas ks H z' b' T' ∧ b.length ≤ 40 ∧ b'.length ≤ 40 ∧ TabAt H v (nms ks) T ∧ TabAt H v' (nms ks) T' ∧ ∀ H', Same H H' → Q (.bl true) H'
theorem sc_L_compared_right : FnScope n_L_compared_right p_L_compared_right (defScope s_L_compared_right) := ⟨rfl, rfl, rfl, by decide +kernel, rfl, by decide +kernel, by decide +kernel⟩
theorem ok_L_compared_right (B : Blt mg) (Y : ZgOk K mg C) (O : ZoOk K C.zone) (M : ZoM P w K mg base C cN) (G_L_within : Fd P w K mg base CX0 1 "_law_within" spLWithin)
    (F : FnDf K "_law_compared_right" "_law_compared_right" s_L_compared_right f fd) : FnG P w K mg base CX0 9 f fd p_L_compared_right (spCmp C.kind C.zone) := by
  refine okG F sc_L_compared_right (fun vs H Q E h => ?_) (fun cdv A outer s H vs Q E hg hr h => ?_)
  · obtain ⟨kas, ks, z, z', v, v', b, b', T, T', rfl, _⟩ := h; rfl
  · obtain ⟨kas, ks, z, z', v, v', b, b', T, T', rfl, hz, hz', lb, lb', hv, hv', q⟩ := h
    have hu := hu_of hr
    have n := sc_L_compared_right.nd
    refine ⟨_, PSs.nox (pss_ct (ps_if (pt_cmpR op_ne (pe_callB (call_reprL hg hr.units) (by rfl) B.repr (by decide +kernel) (pa_cons (pe_lst (pa_cons (pe_cmpR (op_leZ M (hr.mono (by decide))) (pv 0) (pv 1) (nomark _)) (pa_cons (pe_cmpR (op_leZ M (hr.mono (by decide))) (pv 1) (pv 0) (nomark _)) pa_nil))) pa_nil)) (pe_callB (call_reprL hg hr.units) (by rfl) B.repr (by decide +kernel) (pa_cons (pe_lst (pa_cons (pe_d G_L_within (hr.mono (by decide)) pass0 (pa_cons (pv 2) (pa_cons (pv 3) pa_nil))) (pa_cons (pe_d G_L_within (hr.mono (by decide)) pass0 (pa_cons (pv 3) (pa_cons (pv 2) pa_nil))) pa_nil))) pa_nil)) (nomark _))
        (pss_one (ps_ret pe_bl))
        pss_nil)
      (pss_ct (ps_if (pt_cmpR op_ne (pe_callB (call_reprL hg hr.units) (by rfl) B.repr (by decide +kernel) (pa_cons (pe_lst (pa_cons (pe_cmpR (op_eqZ M (hr.mono (by decide))) (pv 0) (pv 1) (nomark _)) (pa_cons (pe_cmpR (op_leZ M (hr.mono (by decide))) (pv 0) (pv 1) (nomark _)) pa_nil))) pa_nil)) (pe_callB (call_reprL hg hr.units) (by rfl) B.repr (by decide +kernel) (pa_cons (pe_lst (pa_cons (pe_cmpR (op_eqT hu) (pv 2) (pv 3) (nomark _)) (pa_cons (pe_cmpR (op_eqZ M (hr.mono (by decide))) (pe_op (op_andZ O M (hr.mono (by decide))) (pv 0) (pv 1)) (pv 0) (nomark _)) pa_nil))) pa_nil)) (nomark _))
        (pss_one (ps_ret pe_bl))
        pss_nil)
      (pss_one (ps_ret (pe_and (pe_cmpR (op_leZ M (hr.mono (by decide))) (pe_op (op_andZ O M (hr.mono (by decide))) (pv 0) (pv 1)) (pv 0) (nomark _)) (pe_one (pe_cmpR (op_leZ M (hr.mono (by decide))) (pe_op (op_andZ O M (hr.mono (by decide))) (pv 0) (pv 1)) (pv 1) (nomark _)))))))), ?_⟩
    have l7 := hz.2.l7
    have sok : ∀ x ∈ nms ks, PyData.strOk x = true := fun x hx => strOk_nms hz.2.kk hx
    have cl := hz.2.clo
    have cl' := hz'.2.clo
    refine ⟨fun σ' H' => σ' = [some (.ref z), some (.ref z'), some v, some v'] ∧ Same H H', ?_, ?_⟩
    · refine u_if ?_
      refine ⟨_, rfl, _, rfl, le_at Y O hz hz' fun H1 b1 s1 e1 => ⟨_, rfl, _, rfl, le_at Y O (hz'.mono s1) (hz.mono s1) fun H2 b2 s2 e2 => ⟨two_ok, fun p ns3 => ⟨p, b2D b1 b2, rfl, .lst (SqL.of upd_same) (.cons (.bl _) (.cons (.bl _) .nil)), (b2_ok b1 b2).1, (b2_ok b1 b2).2.1, (b2_ok b1 b2).2.2.1, b2_len b1 b2, ?_⟩⟩⟩⟩
      have s3 := same_new (o := .lst [.bl b1, .bl b2]) ns3
      have s13 := s1.trans (s2.trans s3)
      refine ⟨_, rfl, _, rfl, v, v', nms ks, T, T', rfl, hv.mono s13, hv'.mono s13, l7, sok, fun H4 b4 s4 e4 => ?_⟩
      have s14 := s13.trans s4
      refine ⟨_, rfl, _, rfl, v', v, nms ks, T', T, rfl, hv'.mono s14, hv.mono s14, l7, sok, fun H5 b5 s5 e5 => ⟨two_ok, fun p ns6 => ⟨p, b2D b4 b5, rfl, .lst (SqL.of upd_same) (.cons (.bl _) (.cons (.bl _) .nil)), (b2_ok b4 b5).1, (b2_ok b4 b5).2.1, (b2_ok b4 b5).2.2.1, b2_len b4 b5, ?_⟩⟩⟩
      have s6 := same_new (o := .lst [.bl b4, .bl b5]) ns6
      obtain rfl := bool_iff e1 e4
      obtain rfl := bool_iff e2 e5
      refine ⟨rfl, _, rfl, iff0 (by simp) ⟨rfl, s14.trans (s5.trans s6)⟩⟩
    rintro σ1 H1 ⟨rfl, s1⟩
    have hz1 := hz.mono s1
    have hz1' := hz'.mono s1
    refine ⟨fun σ' H' => σ' = [some (.ref z), some (.ref z'), some v, some v'] ∧ Same H1 H', ?_, ?_⟩
    · refine u_if ?_
      refine ⟨_, rfl, _, rfl, eq_at Y O hz1 hz1' fun H2 b2 s2 e2 => ⟨_, rfl, _, rfl, le_at Y O (hz1.mono s2) (hz1'.mono s2) fun H3 b3 s3 e3 => ⟨two_ok, fun p ns4 => ⟨p, b2D b2 b3, rfl, .lst (SqL.of upd_same) (.cons (.bl _) (.cons (.bl _) .nil)), (b2_ok b2 b3).1, (b2_ok b2 b3).2.1, (b2_ok b2 b3).2.2.1, b2_len b2 b3, ?_⟩⟩⟩⟩
      have s4 := same_new (o := .lst [.bl b2, .bl b3]) ns4
      have s24 := s2.trans (s3.trans s4)
      have s14 := s1.trans s24
      refine ⟨_, rfl, _, rfl, nms ks, T, T', hv.mono s14, hv'.mono s14, fun b5 e5 => ?_⟩
      refine ⟨_, rfl, _, rfl, and_at (hz1.mono s24) (hz1'.mono s24) (by omega) fun y U H6 s6 zy => ?_⟩
      have s26 := s24.trans s6
      refine ⟨_, rfl, eq_at Y O zy (hz1.mono s26) fun H7 b7 s7 e7 => ⟨two_ok, fun p ns8 => ⟨p, b2D b5 b7, rfl, .lst (SqL.of upd_same) (.cons (.bl _) (.cons (.bl _) .nil)), (b2_ok b5 b7).1, (b2_ok b5 b7).2.1, (b2_ok b5 b7).2.2.1, b2_len b5 b7, ?_⟩⟩⟩
      have s8 := same_new (o := .lst [.bl b5, .bl b7]) ns8
      obtain rfl := bool_iff e2 e5
      have e7' : b7 = true ↔ KM.leT T T' := e7.trans (KM.le_iff_and cl cl' zy.2.clo).symm
      obtain rfl := bool_iff e3 e7'
      exact ⟨rfl, _, rfl, iff0 (by simp) ⟨rfl, s26.trans (s7.trans s8)⟩⟩
    rintro σ2 H2 ⟨rfl, s2⟩
    have hz2 := hz1.mono s2
    have hz2' := hz1'.mono s2
    refine ⟨_, rfl, _, rfl, and_at hz2 hz2' (by omega) fun y U H3 s3 zy => ?_⟩
    refine ⟨_, rfl, le_at Y O zy (hz2.mono s3) fun H4 b4 s4 e4 => ?_⟩
    have := e4.mpr (KM.le_of_sub zy.2.clo cl fun e he => List.mem_append_left _ he)
    subst this
    refine ⟨_, rfl, ift rfl ?_⟩
    have s34 := s3.trans s4
    refine ⟨_, rfl, _, rfl, and_at (hz2.mono s34) (hz2'.mono s34) (by omega) fun y2 U2 H5 s5 zy2 => ?_⟩
    refine ⟨_, rfl, le_at Y O zy2 (hz2'.mono (s34.trans s5)) fun H6 b6 s6 e6 => ?_⟩
    have := e6.mpr (KM.le_of_sub zy2.2.clo cl' fun e he => List.mem_append_right _ he)
    subst this
    exact q _ (s1.trans (s2.trans (s34.trans (s5.trans s6))))
end
end KD
set_option Elab.async false
set_option linter.all false
set_option maxRecDepth 100000
set_option maxHeartbeats 4000000
namespace KD
open PySem PySem.Spec PyProof.Rows L2 KT KR
theorem hz_of {ks : List Kn} {told : List Bd} {T : Tb} (z : ZOk ks told (some T)) : ∀ x, x ∈ nms ks → ∃ t, T "byte" x = some t ∧ t ≤ 0 := fun x hx => by
  have cl : KM.Cl (nms ks) told T := z.clo
  rcases List.mem_cons.mp hx with rfl | h
  · exact ⟨0, cl.refl _ (List.mem_cons_self ..), Int.le_refl _⟩
  · exact cl.edge _ _ _ (z.own _ (List.mem_append_left _ (List.mem_map.mpr ⟨x, h, rfl⟩)))
theorem pt_reach {ks : List Kn} {told : List Bd} {T : Tb} (z : ZOk ks told (some T)) {j : Str} (hj : j ∈ nms ks) {H : Hp} {e : Addr} {kvs : List (Key × V)} (he : H e = some (.dK kvs)) (hl : kvs.length = (scl ks).length) (hv : ∀ x ∈ scl ks, valV kvs (.inr x) = some (.int (KM.reach T "byte" j 1000000 x))) :
    PtAt H e (scl ks) (KM.reach T "byte" j 1000000) where
  ex := ⟨kvs, he, hl, hv⟩
  nn := fun x hx => KM.reach_nn (m := 0) z.clo (hz_of z) hj (List.mem_cons_of_mem _ hx) (by decide)
  z := KM.reach_zero z.clo (hz_of z) hj
theorem inPt_app (a b : List Bd) (p : Str → Int) : inPt (a ++ b) p = (inPt a p && inPt b p) := by unfold inPt; rw [List.all_append]
theorem cut_tl (x : V) (xs : List V) : cutV (x :: xs) (some 1) none = xs := by
  unfold cutV
  rw [show (some (1 : Int)) = some ((1 : Nat) : Int) from rfl, HT.sIx_nat, HT.sIx_none, Nat.min_eq_left (by simp), List.drop_one, List.tail_cons]
  simp
section
variable {P : Program} {w : World} {K : PySem.W.Frag} {mg : Str → Option Value} {base : Heap} {f fI : Addr} {fd : FuncData} {C : Kd} {cN : Addr}
def spPoints (cK cZ : Addr) : Sp := fun vs H Q _ => ∃ (kas : List Addr) (ks : List Kn) (nl zl wl : Addr) (z : Nat → Addr) (v : Nat → V) (b : Nat → List Bd) (T : Nat → Option Tb), vs = [.ref zl, .ref nl, .ref wl] ∧ KsOk ks ∧ H nl = some (.lst ((nms ks).map V.str)) ∧ H zl = some (.lst [.ref (z 0), .ref (z 1), .ref (z 2)]) ∧ H wl = some (.lst [v 0, v 1, v 2]) ∧
  (∀ i : Nat, i < 3 → Zo cK cZ kas ks H (z i) (b i) (T i) ∧ TabAt H (v i) (nms ks) (T i) ∧ (b i).length ≤ 40) ∧ ∀ H', Same H H' → Q (.bl true) H'
theorem sc_L_points_right : FnScope n_L_points_right p_L_points_right (defScope s_L_points_right) := ⟨rfl, rfl, rfl, by decide +kernel, rfl, by decide +kernel, by decide +kernel⟩
theorem ok_L_points_right (B : Blt mg) (Y : ZgOk K mg C) (O : ZoOk K C.zone) (M : ZoM P w K mg base C cN) (G_L_reaching : Fd P w K mg base CX0 1 "_law_reaching" spReach)
    (F : FnDf K "_law_points_right" "_law_points_right" s_L_points_right f fd) : FnOk P w K mg base CX0 8 f fd p_L_points_right (spPoints C.kind C.zone) := by
  refine F.ok sc_L_points_right (fun vs H Q E h => ?_) (fun cdv A outer s H vs Q E hr h => ?_)
  · obtain ⟨kas, ks, nl, zl, wl, z, v, b, T, rfl, _⟩ := h; rfl
  · obtain ⟨kas, ks, nl, zl, wl, z, v, b, T, rfl, kk, hN, hzl, hwl, hz, q⟩ := h
    have hu := hu_of hr
    have n := sc_L_points_right.nd
    refine ⟨_, PSs.nox (pss_cons (ps_set (i := 3) n rfl (.inl rfl) (pe_op (op_andZ O M (hr.mono (by decide))) (pe_ix ix_list (pv 0) pe_int (fun _ _ => rfl)) (pe_ix ix_list (pv 0) pe_int (fun _ _ => rfl))))
      (pss_cons (ps_for PassesOwn.never rfl (pi_range1 rfl B.range (pa_cons pe_int pa_nil)) (pg_name (i := 4) n rfl (.inl rfl))
        (pss_one (ps_for PassesOwn.never rfl (pi_list (pe_ifExp (pt_cmp (pc_notN (pe_ix ix_list (pv 2) (pv 4) (fun _ _ => rfl))) rfl) (pv 1) (pe_lst pa_nil))) (pg_name (i := 5) n rfl (.inl rfl))
            (pss_cons (ps_set (i := 6) n rfl (.inl rfl) (pe_d G_L_reaching (hr.mono (by decide)) pass0 (pa_cons (pe_slice sl_list (pv 1) (po_some pe_int) po_none) (pa_cons (pe_ix ix_list (pv 2) (pv 4) (fun _ _ => rfl)) (pa_cons (pv 5) (pa_cons (pe_op op_pow pe_int pe_int) pa_nil))))))
              (pss_one (ps_if (pt_cmpR op_ne (pe_cmpR (op_inZ M (hr.mono (by decide))) (pv 6) (pv 3) (by rfl)) (pe_and (pe_cmpR (op_inZ M (hr.mono (by decide))) (pv 6) (pe_ix ix_list (pv 0) pe_int (fun _ _ => rfl)) (by rfl)) (pe_one (pe_cmpR (op_inZ M (hr.mono (by decide))) (pv 6) (pe_ix ix_list (pv 0) pe_int (fun _ _ => rfl)) (by rfl)))) (nomark _))
                (pss_one (ps_ret pe_bl))
                pss_nil))))))
      (pss_one (ps_ret pe_bl)))), ?_⟩
    obtain ⟨z0, t0, l0⟩ := hz 0 (by decide)
    obtain ⟨z1, t1, l1⟩ := hz 1 (by decide)
    refine ⟨_, rfl, zl, _, _, _, rfl, rfl, SqL.of hzl, rfl, _, rfl, zl, _, _, _, rfl, rfl, SqL.of hzl, rfl, and_at z0 z1 (by omega) fun zb Tb1 H1 s1 zb1 => ?_⟩
    refine ⟨3, rfl, by decide, by decide, for_it (walk_range (lo := 0) (n := 3)) (fun i σ' H' => ∃ x4 x5 x6, σ' = [some (.ref zl), some (.ref nl), some (.ref wl), some (.ref zb), x4, x5, x6] ∧ Same H1 H') ⟨none, none, none, rfl, Same.refl _⟩ (fun _ _ _ _ _ => trivial) ?_ ?_⟩
    · rintro i x σ2 H2 H2' hi ⟨x4, x5, x6, rfl, s2⟩ ⟨rfl, rfl⟩
      have s12 := s1.trans s2
      obtain ⟨zi, ti, li⟩ := hz i hi
      have hw : atI [v 0, v 1, v 2] ((0 : Int) + (i : Nat)) = some (v i) := by
        have : i = 0 ∨ i = 1 ∨ i = 2 := by omega
        rcases this with rfl | rfl | rfl <;> rfl
      have ti2 := ti.mono s12
      cases hT : T i with
      | none =>
        rw [hT] at ti2
        have ev : v i = .non := ti2
        refine ⟨_, rfl, _, rfl, wl, _, _, _, rfl, rfl, SqL.of (s12 _ _ hwl), hw, _, rfl, ?_⟩
        rw [ev]
        refine iff0 rfl ⟨by decide, fun e he => ⟨e, rfl, ⟨_, SqL.of upd_same⟩, for_list (xs := []) (fun j σ' H' => σ' = [some (.ref zl), some (.ref nl), some (.ref wl), some (.ref zb), some (.int ((0 : Int) + (i : Nat))), x5, x6] ∧ Same H1 H' ∧ H' e = some (.lst [])) ⟨rfl, s2.trans (same_new he), upd_same⟩ (fun j σ' H' _ h => SqL.of h.2.2) (fun j x σ' H' hx _ => by simp at hx) (fun σ' H' h => ⟨_, _, _, h.1, h.2.1⟩)⟩⟩
      | some Tk =>
        rw [hT] at ti2
        rw [hT] at zi
        obtain ⟨d, kvs, ev, hd, R⟩ := ti2
        refine ⟨_, rfl, _, rfl, wl, _, _, _, rfl, rfl, SqL.of (s12 _ _ hwl), hw, _, rfl, ?_⟩
        rw [ev]
        refine ift rfl ⟨_, rfl, nl, rfl, ⟨_, SqL.of (s12 _ _ hN)⟩, for_list (xs := (nms ks).map V.str) (fun j σ' H' => ∃ x5 x6, σ' = [some (.ref zl), some (.ref nl), some (.ref wl), some (.ref zb), some (.int ((0 : Int) + (i : Nat))), x5, x6] ∧ Same H2' H') ⟨_, _, rfl, Same.refl _⟩ (fun j σ' H' _ ⟨_, _, _, s⟩ => SqL.of (s _ _ (s12 _ _ hN))) ?_ (fun σ' H' ⟨x5, x6, e, s⟩ => ⟨_, _, _, e, s2.trans s⟩)⟩
        rintro j x σ3 H3 hx ⟨x5, x6, rfl, s3⟩
        obtain ⟨nm, hnm, rfl⟩ := get_map hx
        have s13 := s12.trans s3
        refine ⟨_, rfl, _, rfl, nl, _, rfl, SqL.of (s13 _ _ hN), fun sl hsl => ?_⟩
        have s4 := same_new (o := .lst (cutV ((nms ks).map V.str) (some 1) none)) hsl
        have s14 := s13.trans s4
        have hcut : upd H3 sl (.lst (cutV ((nms ks).map V.str) (some 1) none)) sl = some (.lst ((scl ks).map V.str)) := by
          rw [upd_same]
          show some (HO.lst (cutV (V.str "byte" :: (scl ks).map V.str) (some 1) none)) = _
          rw [cut_tl]
        refine ⟨_, rfl, _, rfl, wl, _, _, _, rfl, rfl, SqL.of (s14 _ _ hwl), hw, _, rfl, _, _, rfl, rfl, ⟨by decide, by decide, by decide⟩, ?_⟩
        have l6 : (scl ks).length ≤ 6 := by rw [scl_len]; have := kk.le; omega
        refine ⟨sl, scl ks, d, Tk, nm, _, by rw [ev], hcut, l6, (List.nodup_cons.mp (nms_nd kk.nd)).2, ⟨kvs, (s3.trans s4) _ _ hd, R⟩, fun x hx => let ⟨t, e, _⟩ := hz_of zi.2 x hx; ⟨t, e⟩, mem_get hnm, fun e kvs5 H5 s5 he5 _ lk5 hv5 _ => ?_⟩
        have pt := pt_reach zi.2 (mem_get hnm) he5 lk5 hv5
        have s15 := s14.trans s5
        have s25 := s2.trans (s3.trans (s4.trans s5))
        refine ⟨_, rfl, _, rfl, in_at (zb1.mono s25) (by rw [List.length_append]; omega) pt fun H6 s6 => ?_⟩
        have s16 := s15.trans s6
        refine ⟨_, rfl, _, rfl, zl, _, _, _, rfl, rfl, SqL.of (s16 _ _ hzl), rfl, in_at (z0.mono s16) (by omega) (pt.mono s6) fun H7 s7 => ⟨_, rfl, ?_⟩⟩
        rw [inPt_app]
        have s57 := s6.trans s7
        refine if2 (fun e0 => ?_) (fun e0 => ?_)
        · refine ⟨_, rfl, _, rfl, zl, _, _, _, rfl, rfl, SqL.of ((s16.trans s7) _ _ hzl), rfl, in_at (z1.mono (s16.trans s7)) (by omega) (pt.mono s57) fun H8 s8 => ?_⟩
          refine ⟨rfl, _, rfl, iff0 ?_ ⟨_, _, rfl, s3.trans (s4.trans (s5.trans (s57.trans s8)))⟩⟩
          rw [e0]; simp
        · refine ⟨rfl, _, rfl, iff0 ?_ ⟨_, _, rfl, s3.trans (s4.trans (s5.trans s57))⟩⟩
          rw [e0]; simp
    · rintro σ2 H2 ⟨x4, x5, x6, rfl, s2⟩
      exact q _ (s1.trans s2)
end
end KD
set_option Elab.async false
set_option linter.all false
set_option maxRecDepth 100000
set_option maxHeartbeats 4000000
namespace KD
open PySem PySem.Spec PyProof.Rows L2 KT KR
/-- all that was told holds at the far points -/
theorem inPt_reach {ks : List Kn} {told : List Bd} {T : Tb} (z : ZOk ks told (some T)) (hc : ∀ e ∈ told, -50 ≤ e.2.2 ∧ e.2.2 ≤ 50) {j : Str} (hj : j ∈ nms ks) : inPt told (KM.reach T "byte" j 1000000) = true := by
  have ew := ways_tab z z.inn fun _ => Iff.rfl
  have hb : KM.Bnd T (50 * 2 ^ (nms ks).length) := KM.ways_bnd z.inn (by decide) hc ew
  have h7 := z.l7
  have p7 : (2 : Int) ^ (nms ks).length ≤ 2 ^ 7 := by
    have : (2 : Nat) ^ (nms ks).length ≤ 2 ^ 7 := Nat.pow_le_pow_right (by decide) h7
    exact_mod_cast this
  have hf : 4 * (50 * (2 : Int) ^ (nms ks).length) ≤ 1000000 := by
    have : (2 : Int) ^ 7 = 128 := by decide
    omega
  unfold inPt
  rw [List.all_eq_true]
  intro e he
  obtain ⟨x, y, c⟩ := e
  exact decide_eq_true (KM.reach_in z.clo (hz_of z) hj hb hf he)
section
variable {P : Program} {w : World} {K : PySem.W.Frag} {mg : Str → Option Value} {base : Heap} {f fI : Addr} {fd : FuncData} {C : Kd} {cN : Addr}
def spSidesR (cK cZ : Addr) : Sp := fun vs H Q _ => ∃ (p pl : Addr) (n : Nat) (kas : List Addr) (ks : List Kn) (nl z : Addr) (v : V) (told : List Bd) (T : Option Tb), vs = [.ref p, .ref z, .ref nl, v] ∧ PenAt H p pl n ∧ n ≤ 90000 ∧ hide p H nl = some (.lst ((nms ks).map V.str)) ∧
  Zo cK cZ kas ks (hide p H) z told T ∧ TabAt (hide p H) v (nms ks) T ∧ told.length ≤ 40 ∧ (∀ e ∈ told, -50 ≤ e.2.2 ∧ e.2.2 ≤ 50) ∧ ∀ H', PenAt H' p pl (n + 3) → But p H H' → Q (.bl true) H'
theorem sc_L_sides_right : FnScope n_L_sides_right p_L_sides_right (defScope s_L_sides_right) := ⟨rfl, rfl, rfl, by decide +kernel, rfl, by decide +kernel, by decide +kernel⟩
theorem ok_L_sides_right (B : Blt mg) (Y : ZgOk K mg C) (Z : ZnOk K C.zone) (O : ZoOk K C.zone) (M : ZoM P w K mg base C cN) (G_L_draw : Fd P w K mg base CX0 1 "_law_draw" spDraw) (G_L_pick : Fd P w K mg base CX0 2 "_law_pick" spPick) (G_L_reaching : Fd P w K mg base CX0 1 "_law_reaching" spReach)
    (F : FnDf K "_law_sides_right" "_law_sides_right" s_L_sides_right f fd) : FnOk P w K mg base CX0 8 f fd p_L_sides_right (spSidesR C.kind C.zone) := by
  refine F.ok sc_L_sides_right (fun vs H Q E h => ?_) (fun cdv A outer s H vs Q E hr h => ?_)
  · obtain ⟨p, pl, n, kas, ks, nl, z, v, told, T, rfl, _⟩ := h; rfl
  · obtain ⟨p, pl, k, kas, ks, nl, z, v, told, T, rfl, hp, hk, hN, hz, hv, lt, hc, q⟩ := h
    have hu := hu_of hr
    have n := sc_L_sides_right.nd
    refine ⟨_, PSs.nox (pss_cons (ps_par3 (i := 4) (j := 5) (l := 6) rfl n rfl rfl rfl (by decide) (by decide) (by decide) rfl rfl rfl (pa_cons (pe_d G_L_pick (hr.mono (by decide)) pass0 (pa_cons (pv 0) (pa_cons (pv 2) pa_nil))) (pa_cons (pe_d G_L_pick (hr.mono (by decide)) pass0 (pa_cons (pv 0) (pa_cons (pv 2) pa_nil))) (pa_cons (pe_op op_sub (pe_d G_L_draw (hr.mono (by decide)) pass0 (pa_cons (pv 0) (pa_cons pe_int pa_nil))) pe_int) pa_nil))) (by rfl))
      (pss_cons (ps_asg (pe_m (pv 1) Z.cl M.sides (hr.mono (by decide)) pass0 (pa_cons (pv 4) (pa_cons (pv 5) (pa_cons (pv 6) pa_nil)))) (pg_tup rfl (pgs_cons (pg_name (i := 7) n rfl (.inl rfl)) (pgs_cons (pg_name (i := 8) n rfl (.inl rfl)) pgs_nil))))
      (pss_ct (ps_if (PW.pt (pw_or (pt_tru (tr_Z M (hr.mono (by decide))) (pe_op (op_andZ O M (hr.mono (by decide))) (pv 7) (pv 8))) (pw_or (pt_not (pt_cmpR (op_leZ M (hr.mono (by decide))) (pv 7) (pv 1) (nomark _))) (pw_or1 (pt_not (pt_cmpR (op_leZ M (hr.mono (by decide))) (pv 8) (pv 1) (nomark _)))))))
        (pss_one (ps_ret pe_bl))
        pss_nil)
      (pss_cons (ps_for PassesOwn.never rfl (pi_list (pe_ifExp (pt_cmp (pc_notN (pv 3)) rfl) (pv 2) (pe_lst pa_nil))) (pg_name (i := 9) n rfl (.inl rfl))
        (pss_cons (ps_set (i := 10) n rfl (.inl rfl) (pe_d G_L_reaching (hr.mono (by decide)) pass0 (pa_cons (pe_slice sl_list (pv 2) (po_some pe_int) po_none) (pa_cons (pv 3) (pa_cons (pv 9) (pa_cons (pe_op op_pow pe_int pe_int) pa_nil))))))
          (pss_cons (ps_set (i := 11) n rfl (.inl rfl) (pe_callTy call_dictD (by rfl) B.dict (by decide +kernel) (pa_cons (pv 10) pa_nil)))
          (pss_cons (ps_dput hu (pv 11) pe_str pe_int rfl)
          (pss_cons (ps_set (i := 12) n rfl (.inl rfl) (pe_cmpR op_le (pe_op op_sub (pe_dget hu (pv 11) (pv 4) (fun _ _ => rfl)) (pe_dget hu (pv 11) (pv 5) (fun _ _ => rfl))) (pv 6) (nomark _)))
          (pss_one (ps_if (PW.pt (pw_or (pt_cmpR op_ne (pe_cmpR (op_inZ M (hr.mono (by decide))) (pv 10) (pv 7) (by rfl)) (pv 12) (nomark _)) (pw_or1 (pt_cmpR op_eq (pe_cmpR (op_inZ M (hr.mono (by decide))) (pv 10) (pv 8) (by rfl)) (pv 12) (nomark _)))))
            (pss_one (ps_ret pe_bl))
            pss_nil)))))))
      (pss_one (ps_ret pe_bl)))))), ?_⟩
    have lnm : ((nms ks).map V.str).length = 1 + 2 * ks.length := by rw [List.length_map, nms_len]
    have k3 := hz.2.kk.le
    refine ⟨_, rfl, _, rfl, p, pl, nl, _, _, rfl, hp, by omega, hN, by omega, by omega, fun xi H1 hxi hp1 b1 => ?_⟩
    obtain ⟨ni, mi, rfl⟩ := List.mem_map.mp hxi
    refine ⟨_, rfl, _, rfl, p, pl, nl, _, _, rfl, hp1, by omega, b1 _ _ hN, by omega, by omega, fun xj H2 hxj hp2 b2 => ?_⟩
    obtain ⟨nj, mj, rfl⟩ := List.mem_map.mp hxj
    refine ⟨_, rfl, p, pl, _, _, rfl, hp2, by omega, by decide, by decide, fun dc H3 d0 d1 hp3 b3 => ⟨_, _, rfl, rfl, _, _, _, rfl, ?_⟩⟩
    have b03 : But p H H3 := Same.trans b1 (Same.trans b2 b3)
    have hz3 : Zo C.kind C.zone kas ks H3 z told T := (hz.mono b03).mono hide_same
    have hN3 : H3 nl = some (.lst ((nms ks).map V.str)) := hide_same _ _ (b03 _ _ hN)
    have hv3 : TabAt H3 v (nms ks) T := (hv.mono b03).mono hide_same
    have fin : ∀ H', Same H3 H' → Q (.bl true) H' := fun H' s => q H' (hp3.mono s) (Same.trans b03 (But.of s))
    clear q
    obtain ⟨dx, kt, st, nt, tt, tv, bas0, h1, hrest⟩ := id hz3.1
    refine ⟨_, rfl, z, dx, _, rfl, h1, rfl, _, rfl, _, rfl, _, rfl, z, kas, ks, told, T, ni, nj, dc - 6, rfl, hz3.1, hz3.2, mi, mj, by omega, by omega, by omega, fun pp z1 z2 H4 s4 hpp a1 a2 => ?_⟩
    have zi : Zo C.kind C.zone kas ks H4 z1 (told ++ [(ni, nj, (dc - 6))]) _ := ⟨a1, hz3.2.more fun e he => by rw [List.mem_singleton.mp he]; exact ⟨mi, mj⟩⟩
    have zo : Zo C.kind C.zone kas ks H4 z2 (told ++ [(nj, ni, -(dc - 6) - 1)]) _ := ⟨a2, hz3.2.more fun e he => by rw [List.mem_singleton.mp he]; exact ⟨mj, mi⟩⟩
    generalize KM.tights (nms ks) T [(ni, nj, (dc - 6))] = Ti at zi
    generalize KM.tights (nms ks) T [(nj, ni, -(dc - 6) - 1)] = To at zo
    clear a1 a2
    have li : (told ++ [(ni, nj, (dc - 6))]).length ≤ 41 := by rw [List.length_append]; simp; omega
    have lo : (told ++ [(nj, ni, -(dc - 6) - 1)]).length ≤ 41 := by rw [List.length_append]; simp; omega
    refine ⟨pp, _, rfl, SqT.of hpp, rfl, _, _, rfl, _, _, rfl, rfl, ?_⟩
    refine ⟨fun σ' H' => σ' = [some (.ref p), some (.ref z), some (.ref nl), some v, some (.str ni), some (.str nj), some (.int (dc - 6)), some (.ref z1), some (.ref z2), none, none, none, none] ∧ Same H4 H', ?_, ?_⟩
    · refine u_if (u_or ?_)
      refine ⟨_, rfl, _, rfl, and_at zi zo (by omega) fun y U H5 s5 zy => ?_⟩
      obtain rfl : U = none := KM.sides_neg zy.2.clo
      refine tru_at zy (iff0 rfl ?_)
      refine u_or (u_not ⟨_, rfl, _, rfl, le_at Y O (zi.mono s5) (hz3.mono (s4.trans s5)) fun H6 b6 s6 e6 => ?_⟩)
      have := e6.mpr (KM.le_of_sub zi.2.clo hz3.2.clo fun e he => List.mem_append_left _ he)
      subst this
      refine ⟨_, rfl, iff0 rfl (u_not ⟨_, rfl, _, rfl, le_at Y O (zo.mono (s5.trans s6)) (hz3.mono (s4.trans (s5.trans s6))) fun H7 b7 s7 e7 => ?_⟩)⟩
      have := e7.mpr (KM.le_of_sub zo.2.clo hz3.2.clo fun e he => List.mem_append_left _ he)
      subst this
      exact ⟨_, rfl, iff0 rfl ⟨rfl, s5.trans (s6.trans s7)⟩⟩
    rintro σ5 H5 ⟨rfl, s5⟩
    have s35 := s4.trans s5
    cases T with
    | none =>
      obtain rfl : v = .non := hv3
      refine ⟨_, rfl, _, rfl, iff0 rfl ⟨by decide, fun e he => ⟨e, rfl, ⟨_, SqL.of upd_same⟩, for_list (xs := []) (fun j σ' H' => Same H3 H' ∧ H' e = some (.lst [])) ⟨s35.trans (same_new he), upd_same⟩ (fun j σ' H' _ h => SqL.of h.2) (fun j x σ' H' hx _ => by simp at hx) (fun σ' H' h => fin _ h.1)⟩⟩⟩
    | some Tk =>
    obtain ⟨d, kvs, rfl, hd, R⟩ := hv3
    refine ⟨_, rfl, _, rfl, ift rfl ⟨_, rfl, nl, rfl, ⟨_, SqL.of (s35 _ _ hN3)⟩, for_list (xs := (nms ks).map V.str) (fun j σ' H' => ∃ x9 x10 x11 x12, σ' = [some (.ref p), some (.ref z), some (.ref nl), some (.ref d), some (.str ni), some (.str nj), some (.int (dc - 6)), some (.ref z1), some (.ref z2), x9, x10, x11, x12] ∧ Same H3 H' ∧ Same H4 H')
      ⟨_, _, _, _, rfl, s35, s5⟩ (fun j σ' H' _ ⟨_, _, _, _, _, s, _⟩ => SqL.of (s _ _ hN3)) ?_ (fun σ' H' ⟨_, _, _, _, _, s, _⟩ => fin _ s)⟩⟩
    rintro j x σ6 H6 hx ⟨x9, x10, x11, x12, rfl, s6, s46⟩
    obtain ⟨nm, hnm, rfl⟩ := get_map hx
    refine ⟨_, rfl, _, rfl, nl, _, rfl, SqL.of (s6 _ _ hN3), fun sl hsl => ?_⟩
    have s7 := same_new (o := .lst (cutV ((nms ks).map V.str) (some 1) none)) hsl
    have hcut : upd H6 sl (.lst (cutV ((nms ks).map V.str) (some 1) none)) sl = some (.lst ((scl ks).map V.str)) := by
      rw [upd_same]
      show some (HO.lst (cutV (V.str "byte" :: (scl ks).map V.str) (some 1) none)) = _
      rw [cut_tl]
    have l6 : (scl ks).length ≤ 6 := by rw [scl_len]; omega
    refine ⟨_, rfl, _, rfl, _, _, rfl, rfl, ⟨by decide, by decide, by decide⟩, ?_⟩
    refine ⟨sl, scl ks, d, Tk, nm, _, rfl, hcut, l6, (List.nodup_cons.mp hz3.2.nd).2, ⟨kvs, (s6.trans s7) _ _ hd, R⟩, fun x hx => let ⟨t, e, _⟩ := hz_of hz3.2 x hx; ⟨t, e⟩, mem_get hnm, fun e kv8 H8 s8 he8 _ lk8 hv8 nv8 => ?_⟩
    have pt := pt_reach hz3.2 (mem_get hnm) he8 lk8 hv8
    have ev : inPt told (KM.reach Tk "byte" nm 1000000) = true := inPt_reach hz3.2 hc (mem_get hnm)
    generalize hpv : KM.reach Tk "byte" nm 1000000 = pv' at pt ev
    have hv8 : ∀ x ∈ scl ks, valV kv8 (.inr x) = some (.int (pv' x)) := fun x hx => by rw [← hpv]; exact hv8 x hx
    refine ⟨_, rfl, e, kv8, rfl, .inl he8, fun e9 ne9 => ?_⟩
    have s9 := same_new (o := .dK kv8) ne9
    have lk8' : kv8.length ≤ 6 := by omega
    refine ⟨_, rfl, e9, _, rfl, DPut.k (k := .inr "byte") upd_same (small1000 (by omega)), ?_⟩
    have s10 : Same H8 (upd (upd H8 e9 (.dK kv8)) e9 (.dK (putK kv8 (.inr "byte") (.int 0)))) := same_mut s9 ne9
    have h10 : upd (upd H8 e9 (.dK kv8)) e9 (.dK (putK kv8 (.inr "byte") (.int 0))) e9 = some (.dK (putK kv8 (.inr "byte") (.int 0))) := upd_same
    generalize upd (upd H8 e9 (.dK kv8)) e9 (.dK (putK kv8 (.inr "byte") (.int 0))) = H10 at s10 h10 ⊢
    have val : ∀ x, x ∈ nms ks → valV (putK kv8 (.inr "byte") (.int 0)) (.inr x) = some (.int (pv' x)) := fun x hx => by
      rw [valV_put]
      by_cases ex : x = "byte"
      · rw [if_pos (by rw [ex]), ex, pt.z]
      · rw [if_neg (fun z => ex (Sum.inr.inj z))]
        rcases List.mem_cons.mp hx with z | z
        · exact absurd z ex
        · exact hv8 x z
    have gi : DGet H10 e9 (.str ni) (some (.int (pv' ni))) := val ni mi ▸ DGet.k (k := .inr ni) h10
    have gj : DGet H10 e9 (.str nj) (some (.int (pv' nj))) := val nj mj ▸ DGet.k (k := .inr nj) h10
    refine ⟨_, rfl, _, rfl, e9, _, rfl, gi, _, rfl, _, rfl, e9, _, rfl, gj, _, _, rfl, rfl, _, rfl, _, _, rfl, rfl, ?_⟩
    have s4x := s46.trans (s7.trans (s8.trans s10))
    have s3x := s6.trans (s7.trans (s8.trans s10))
    refine u_name ?_
    dsimp only
    refine u_if ?_
    refine u_or ?_
    refine (u_B ⟨_, rfl, _, rfl, in_at (zi.mono s4x) (by omega) (pt.mono s10) fun H11 s11 => ⟨_, rfl, rfl, _, rfl, ?_⟩⟩)
    rw [inPt_app, ev]
    have e1 : (true && inPt [(ni, nj, (dc - 6))] pv') = decide (pv' ni - pv' nj ≤ (dc - 6)) := by simp [inPt]
    refine iff0 (by rw [e1]; simp) (u_B ⟨_, rfl, _, rfl, in_at (zo.mono (s4x.trans s11)) (by omega) (pt.mono (s10.trans s11)) fun H12 s12 => ⟨_, rfl, rfl, _, rfl, ?_⟩⟩)
    rw [inPt_app, ev]
    have e2 : (true && inPt [(nj, ni, -(dc - 6) - 1)] pv') = !decide (pv' ni - pv' nj ≤ (dc - 6)) := by
      simp only [inPt, Bool.true_and, List.all_cons, List.all_nil, Bool.and_true]
      rw [← decide_not]
      exact decide_eq_decide.mpr (by omega)
    refine iff0 (by rw [e2]; cases decide (pv' ni - pv' nj ≤ (dc - 6)) <;> rfl) ⟨_, _, _, _, rfl, s3x.trans (s11.trans s12), s4x.trans (s11.trans s12)⟩
end
end KD
set_option Elab.async false
set_option linter.all false
set_option maxRecDepth 100000
set_option maxHeartbeats 4000000
namespace KR
open PySem PySem.Spec PyProof.Rows L2
def wVal (K : PySem.W.Frag) (len : Nat) (c : Value) (i : Nat) (ts : Addr → Value → Option Addr → TS) (tr : Addr → Value → Option Addr → TS) (Wout : WX) (D : Ends) : WX := fun cls d σ H =>
  ∃ b, PySem.W.exmOne K cls c = some b ∧ (b = true → ∀ a, H a = none → σ.length = len → ts a cls d { nx := fun σ' H' => tr a cls d D (σ'.set i none) H', rt := fun _ _ => False, bk := fun _ _ => False, ct := fun _ _ => False } (σ.set i (some (.ref a))) H) ∧
    (b = false → Wout cls d σ H)
section
variable {X : Cx} {x n : Str} {c : Value} {i : Nat} {body suite rest : List Stmt} {b₀ : Stmt} {np pos pos' : Pos} {tb : WX → TS} {ts tr : Addr → Value → Option Addr → TS} {Wout : WX}
theorem pss_tryV (hs : X.stack = X.env :: X.outer) (hf : X.env.frame = some X.env.locals) (hN : X.N.Nodup) (hi : X.N[i]? = some n) (hln : X.env.kindOf n = some .local) (hc : Names X x c) (tk : L2.Takes X Wout)
    (hb : ∀ (W : WX) (pn : List (Addr × Obj)) (xe : Value → Shared → Prop), L2.Takes (X.tr pn xe) W → PassesOwn (model X.prog X.w) X.A X.env xe → PSs (X.tr pn xe) body (tb W))
    (hsu : ∀ (a : Addr) (oe : Obj) (cls : Value) (d : Option Addr) (pn : List (Addr × Obj)), Zc cls d oe → (∃ vs, oe.data = .fields vs) → PSs (X.suite a ((a, oe) :: pn)) (b₀ :: suite) (ts a cls d))
    (hre : ∀ (a : Addr) (oe : Obj) (cls : Value) (d : Option Addr) (pn : List (Addr × Obj)), Zc cls d oe → (∃ vs, oe.data = .fields vs) → PSs (X.tr ((a, oe) :: pn) X.xe) rest (tr a cls d)) :
    PSs X (.Try body [.ExceptHandler (some (.Name x np)) (some n) (b₀ :: suite) pos'] [] [] pos :: rest) (fun D σ H => tb (wVal X.K X.N.length c i ts tr Wout D) { nx := fun _ _ => False, rt := fun _ _ => False, bk := fun _ _ => False, ct := fun _ _ => False } σ H) := by
  refine ⟨fun pins s σ H D I h => ?_⟩
  have ok := I.ok
  have hfr : X.A.frames = some (X.env :: X.outer) := by rw [ok.frames, hs]
  have hloc : Loc X.env.scope n := .inl hln
  refine wpAny_execs_cons ?_
  refine wpAny_Try_except ?_
  -- what stands behind the statement
  generalize hQ : (fun (f : Flow) (s' : Shared) => match f with | .next => wpAny (model X.prog X.w) X.A (execs rest X.env) (SP X pins D) X.xe s' | f => SP X pins D f s') = QS
  refine wpAny_mono ((hb (wVal X.K X.N.length c i ts tr Wout D) (X.pn ++ pins) (fun e s₁ => wpAny (model X.prog X.w) X.A (noteFrame e X.env) (fun _ s₂ => wpAny (model X.prog X.w) X.A (setFlight e none) (fun _ s₃ =>
    wpAny (model X.prog X.w) X.A (handleBy e X.env [.ExceptHandler (some (.Name x np)) (some n) (b₀ :: suite) pos']) QS X.xe s₃) X.xe s₂) X.xe s₁) (fun u s' xx => ?_) PassesOwn.looking).run [] s σ H _ (I.toTry _) h) (fun f s1 hsp => ?_) (fun e s1 he => ?_)
  · -- the catch
    obtain ⟨a, B, sI, pins', σ', H', cls, d, rfl, J', nb, up, sky, na, os, ag, b, hb1, hyes, hno⟩ := xx
    have J : Inv X pins σ' H' sI := J'.ofTry ok
    have sky' : Sky B (X.env :: X.outer) a (Zc cls d) X.env.locals s'.heap := by rw [← hs]; exact sky
    show wpAny (model X.prog X.w) X.A (noteFrame (.ref a) X.env) _ _ _
    refine Sky.land Zc.steady hfr hf sky' fun h3 fl3 up3 => ?_
    have J3 : Inv X pins σ' H' { s' with heap := h3 } := J.landed nb fl3.1 (up.trans up3) os ag
    obtain ⟨oe3, vs3, he3, hz3, hd3⟩ := fl3.there
    have notFr : ∀ {h : Heap} {o : Obj} {vs : Array Value}, h.FunFrames B (X.env :: X.outer) → h.get? a = some o → o.data = .fields vs → a ∉ frs (X.env :: X.outer) := fun {h o vs} ff e dd hm => by
      obtain ⟨_, o', e', hnf⟩ := ff.mem hm
      rw [e] at e'; cases e'
      exact hnf _ dd
    have nfr := notFr fl3.2.2.1 he3 hd3
    have nL : a ≠ X.env.locals := fun z => nfr (List.mem_filterMap.mpr ⟨X.env, List.mem_cons_self, by rw [hf, z]⟩)
    have nF : a ∉ X.fs := fun hm => by
      obtain ⟨e, he, q⟩ := List.mem_filterMap.mp hm
      exact nfr (List.mem_filterMap.mpr ⟨e, List.mem_cons_of_mem _ he, q⟩)
    have S3 := J3.suite he3 hd3 na nL nF
    refine wpAny_handleBy_cons (codeAny_handlers_test ?_) (by intro q; cases q)
    have LT : PySem.W.Looks (model X.prog X.w) h3 (typeOf (.ref a)) cls := fun A Q E s k q => wpAny_typeOf_ref (k _ _ he3) (by rw [hz3.1]; exact q)
    have LM := PySem.W.exm_one (M := model X.prog X.w) (J3.kIn) LT hb1
    have test : ∀ {Q : Value → Shared → Prop} {E : Value → Shared → Prop}, Q c { s' with heap := h3 } → wpAny (model X.prog X.w) (X.A.mark (some (.ref a))) (eval (.Name x np) X.env) Q E { s' with heap := h3 } := fun {Q E} q => by
      obtain ⟨hg, hdbg, hm | ⟨hm, hv, hnn⟩⟩ := hc
      · exact ld_glob (X := X.suite a ((a, oe3) :: (X.pn ++ pins))) S3 hg hm q hdbg
      · exact ld_blt (X := X.suite a ((a, oe3) :: (X.pn ++ pins))) S3 hg hm hv q hnn hdbg
    refine test (LM.here ?_)
    cases b with
    | true =>
      refine codeAny_handlers_suite_as ?_
      refine HandSPX.lands_againZ fl3 fun h4 fl4 up4 => ?_
      have J4 : Inv X pins σ' H' { s' with heap := h4 } := J.landed nb fl4.1 ((up.trans up3).trans up4) os ag
      obtain ⟨oe4, vs4, he4, hz4, hd4⟩ := fl4.there
      have S4 := J4.suite he4 hd4 na nL nF
      refine store_ok (X := X.suite a ((a, oe4) :: (X.pn ++ pins))) (v := .ref a) S4 hN hi hloc rfl (fun s5 S5 => ?_) (.inr hln)
      refine wpAny_mono ((hsu a oe4 cls d (X.pn ++ pins) hz4 ⟨_, hd4⟩).run [] s5 _ H' _ S5 (hyes rfl a na J.len)) (fun f s6 hsp => ?_) (fun _ _ z => False.elim z)
      cases f with
      | next =>
        obtain ⟨σ6, H6, S6, q6⟩ := hsp
        have J6 : Inv X ((a, oe4) :: pins) σ6 H6 s6 := (S6.unsuite ok).pins_of fun p hp => by
          rcases List.mem_cons.mp hp with e | hp
          · rw [e]; exact S6.pin (a, oe4) (by simp)
          · exact S6.pin p (by simp [hp])
        refine gone_ok J6 hN hi hln fun s7 J7 => ?_
        subst hQ
        have J8 : Inv (X.tr ((a, oe4) :: (X.pn ++ pins)) X.xe) [] (σ6.set i none) H6 s7 := ⟨ok.toTry _ _, J7.os, J7.bare, J7.base, J7.loc, J7.cell, J7.free, J7.freeC, fun p hp => by
          rw [List.append_nil] at hp
          refine J7.pin p ?_
          rcases List.mem_cons.mp hp with e | hp
          · rw [e]; simp
          · rcases List.mem_append.mp hp with z | z <;> simp [z], J7.hok, J7.len⟩
        have back : ∀ {σ9 : L2.St} {H9 : Hp} {s9 : Shared}, Inv (X.tr ((a, oe4) :: (X.pn ++ pins)) X.xe) [] σ9 H9 s9 → Inv X pins σ9 H9 s9 := fun {σ9 H9 s9} J => ⟨ok, J.os, J.bare, J.base, J.loc, J.cell, J.free, J.freeC, fun p hp => J.pin p (by
          rw [List.append_nil]; exact List.mem_cons_of_mem _ hp), J.hok, J.len⟩
        refine wpAny_mono ((hre a oe4 cls d (X.pn ++ pins) hz4 ⟨_, hd4⟩).run [] s7 _ H6 D J8 q6) (fun f s9 hsp => ?_) (fun _ _ z => z)
        cases f with
        | next =>
          obtain ⟨σ9, H9, J9, q9⟩ := hsp
          exact ⟨σ9, H9, back J9, q9⟩
        | brk =>
          obtain ⟨σ9, H9, J9, q9⟩ := hsp
          exact ⟨σ9, H9, back J9, q9⟩
        | cont =>
          obtain ⟨σ9, H9, J9, q9⟩ := hsp
          exact ⟨σ9, H9, back J9, q9⟩
        | ret u =>
          obtain ⟨v, σ9, H9, J9, r9, q9⟩ := hsp
          exact ⟨v, σ9, H9, back J9, r9, q9⟩
      | brk =>
        obtain ⟨σ6, H6, S6, q6⟩ := hsp
        exact q6.elim
      | cont =>
        obtain ⟨σ6, H6, S6, q6⟩ := hsp
        exact q6.elim
      | ret u =>
        obtain ⟨v6, σ6, H6, S6, r6, q6⟩ := hsp
        exact q6.elim
    | false =>
      show wpAny _ X.A (handleBy (.ref a) X.env []) _ _ _
      refine wpAny_handleBy_nil ?_
      obtain ⟨k1, k2, k3, oe, vs, T, oT, ts', he, hz, hd, h1, hr⟩ := id fl3
      unfold PySem.passOn
      refine wpAny_bind (wpAny_field he hd h1 ?_)
      rw [if_neg (show ¬ ((Value.ref T == Value.none) = true) from by simp)]
      have fin : wpAny (model X.prog X.w) X.A (setFlight (.ref a) X.env.frame) (fun _ s4 => wpAny (model X.prog X.w) X.A (throw (.ref a) : Sem Flow) QS X.xe s4) X.xe { s' with heap := h3 } := by
        rw [hf]
        refine HandSPX.setFlight_upZ fl3 fun h4 hh4 up4 => wpAny_throw (tk _ _ ?_)
        exact ⟨a, B, sI, pins, σ', H', cls, d, rfl, J, nb, (up.trans up3).trans up4, .inr (.inr (by rw [hs]; exact hh4)), na, os, ag, hno rfl⟩
      first
        | exact wpAny_bind (wpAny_pure (wpAny_bind fin))
        | exact wpAny_bind fin
  · cases f with
    | next =>
      obtain ⟨σ', H', J', q⟩ := hsp
      exact q.elim
    | brk =>
      obtain ⟨σ', H', J', q⟩ := hsp
      exact q.elim
    | cont =>
      obtain ⟨σ', H', J', q⟩ := hsp
      exact q.elim
    | ret u =>
      obtain ⟨v, σ', H', J', r, q⟩ := hsp
      exact q.elim
  · exact he
end
end KR
set_option Elab.async false
set_option linter.all false
set_option maxRecDepth 100000
set_option maxHeartbeats 4000000
namespace PySem.W
open PySem PySem.Spec PySem.Calls PyProof.Rows
section
variable {prog : Program} {w : World} {A : Around} {E : Value → Shared → Prop} {s : Shared} {K : Frag} {x D : Addr} {ox od : Obj}
theorem kin_classD {Q : Option Value → Shared → Prop} (hga : findIn K (.ref D) "__getattribute__" = some (some (.builtin "BaseException.__getattribute__"))) (hgt : findIn K (.ref D) "__getattr__" = some none) (hsub : subIn K (.ref D) (.type "BaseException") = some true)
    (hdct : hasDictIn K D = true) (ha : findIn K (.ref D) "__class__" = some (some (.builtin "object.__class__")))
    (hn : specialIn K (.builtin "object.__class__") "__get__" = some (some (.builtin "getset_descriptor.__get__"))) (htk : takesIn K (.builtin "object.__class__") = some true) (hm : mroIn K D (.type "object") = some true)
    (X : K.In s.heap) (I : InstAt s.heap x ox D (some od)) (h : Q (some (.ref D)) { s with toks := s.toks + 1 }) : wpAny (model prog w) A (getAttr? (.ref x) "__class__") Q E s := by
  have hf : findObj K D (some od) "__class__" = some (.bind (.builtin "getset_descriptor.__get__") (.builtin "object.__class__")) := findObj_data (by obtain ⟨cd, hc, _⟩ := any_some hdct; rw [hc]; rfl) ha hn htk
  obtain ⟨hp, g, d, t, os⟩ := s
  have L0 := I.type (M := model prog w)
  have L1 := looks_findIn (M := model prog w) X hga
  have L2 := looks_findIn (M := model prog w) X hgt
  have L3 := looks_find (M := model prog w) X I hf
  have sub : Looks (model prog w) hp (isInstance (.ref x) (.type "BaseException")) true := L0.andThen (looks_subIn X hsub)
  have hx0 : (false && onTheHeap (Value.builtin "BaseException.__getattribute__")) = false := rfl
  have hx2 : (Value.builtin "BaseException.__getattribute__" == Value.builtin "object.__getattribute__") = false := by decide +kernel
  have hx1 : (onTheHeap (Value.ref D) && Value.builtin "BaseException.__getattribute__" == Value.builtin "object.__getattribute__") = false := by rw [hx2]; rfl
  unfold getAttr? getAttrBy? getAttrBy
  refine wpAny_bind (wpAny_mkText (wpAny_bind (wpAny_attempt (wpAny_holding (wpAny_bind (L0.at (wpAny_bind (L1.at ?_))))))))
  show wpAny _ _ (if (onTheHeap (Value.ref D) && Value.builtin "BaseException.__getattribute__" == Value.builtin "object.__getattribute__") = true then _ else _) _ _ _
  rw [hx1, if_neg Bool.false_ne_true]
  unfold getAttrByItsOwn hookBefore
  refine wpAny_bind ?_
  rw [if_pos (show onTheHeap (Value.ref D) = true from rfl)]
  refine L2.at ?_
  refine wpAny_bind (wpAny_attempt (wpAny_holding ?_))
  unfold callGetattribute
  rw [hx0, if_neg Bool.false_ne_true]
  unfold boundAndCalled
  rw [PySem.F.excAttr_ValueError.ga.bind (.ref x)]
  refine wpAny_bind (wpAny_pure ?_)
  show wpAny _ _ (call (.builtin "BaseException.__getattribute__") [.ref x, .str "__class__" t]) _ _ _
  refine wpAny_call (codeAny_call_builtin PySem.F.excAttr_ValueError.ga.plain PySem.F.entry_bexc_ga ?_)
  refine @check_slot (model prog w) _ _ ⟨hp, g, d, t + 1, os⟩ "BaseException.__getattribute__" "BaseException" "__getattribute__" (.ref x) [.str "__class__" t] [] _ (by decide +kernel) (by decide +kernel) sub (PySem.F.args_bexc_ga (.ref x) (.str "__class__" t)) ?_
  unfold Builtin.«object.__getattribute__»
  refine wpAny_bind (wpAny_of_eq (a := ((Value.ref x : Value), [Value.str "__class__" t])) (by first | rfl | (simp only [slotArgs]; rfl)) ?_)
  refine wpAny_bind (wpAny_pure (wpAny_bind (L0.at (wpAny_bind (L3.at ?_)))))
  show wpAny _ _ (holding [Value.builtin "object.__class__"] (call (.builtin "getset_descriptor.__get__") [.builtin "object.__class__", .ref x, .ref D]) >>= ret) _ _ _
  refine wpAny_bind (wpAny_holding (wpAny_call (class_get (s := ⟨hp, g, d, t + 1, os⟩) (ox := ox) (od := some od) X I hm ?_)))
  refine wpAny_pure ?_
  show wpAny _ _ (handedOut (.ref D)) _ _ _
  rw [handedOut_of (v := .ref D) rfl]
  first
    | exact wpAny_pure (wpAny_pure h)
    | exact wpAny_pure h
    | exact wpAny_pure (wpAny_bind (wpAny_pure (wpAny_pure h)))
theorem kitx_excD (hga : findIn K (.ref D) "__getattribute__" = some (some (.builtin "BaseException.__getattribute__"))) (hgt : findIn K (.ref D) "__getattr__" = some none) (hsub : subIn K (.ref D) (.type "BaseException") = some true) (hdct : hasDictIn K D = true) (ha : findIn K (.ref D) "__class__" = some (some (.builtin "object.__class__")))
    (hn : specialIn K (.builtin "object.__class__") "__get__" = some (some (.builtin "getset_descriptor.__get__"))) (htk : takesIn K (.builtin "object.__class__") = some true) (hm : mroIn K D (.type "object") = some true) :
    KitX K (.ref x) (.ref D) (fun h => InstAt h x ox D (some od)) where
  ty := fun _ _ _ I => I.type
  it := fun _ _ X _ => by
    obtain ⟨cdD, hcD, _⟩ := any_some hdct
    unfold clsIn at hcD
    split at hcD
    · rename_i c' d' cd' sl' ho
      intro A' Q' E' s' k q
      unfold isType loadHead
      exact wpAny_bind (wpAny_loadPart (k _ _ (X _ _ ho)) (wpAny_pure q))
    · cases hcD
  ne := fun h tp dd its n sl X htp => by
    obtain ⟨cdD, hcD, _⟩ := any_some hdct
    refine Bool.eq_false_iff.mpr fun q => ?_
    have e : D = tp := Value.ref.inj (beq_iff_eq.mp q)
    subst e
    unfold clsIn at hcD
    split at hcD
    · rename_i c' d' cd' sl' ho
      have z := (X _ _ ho).symm.trans htp
      cases z
    · cases hcD
  ca := fun X I k => kin_classD hga hgt hsub hdct ha hn htk hm X I k
end
end PySem.W
namespace KR
open PySem PySem.Spec PyProof.Rows L2
section
variable {X : Cx} {a D : Addr} {oe : Obj} {dd : Addr} {fs : List (Str × V)} {pn : List (Addr × Obj)} {xe : Value → Shared → Prop}
/-- where the caught object stands -/
theorem pin_inst {pins : List (Addr × Obj)} {σ : L2.St} {H : Hp} {s : Shared} (I : Inv (X.tr ((a, oe) :: pn) xe) pins σ H s) (hz : Zc (.ref D) (some dd) oe) (hf : ∃ vs, oe.data = .fields vs) (hd : H dd = some (.xd fs)) :
    ∃ od, PySem.W.InstAt s.heap a oe D (some od) ∧ ∃ mA : Str → Option Value, (∀ n, PySem.W.lookIn n od = some (mA n)) ∧ ∀ n, RelO (fs.lookup n) (mA n) := by
  obtain ⟨ha, _⟩ := I.pin (a, oe) (List.mem_append_left _ List.mem_cons_self)
  obtain ⟨vs, hv⟩ := hf
  have hx : ObjOk X.prog X.w H s.heap dd (.xd fs) := I.hok dd _ hd
  obtain ⟨mA, hns, hr⟩ := hx
  obtain ⟨od, ho, hl⟩ := lookIn_ns hns
  exact ⟨od, ⟨ha, hz.1, by unfold PySem.W.notCls; rw [hv] <;> rfl, by rw [hz.2]; exact ho⟩, mA, hl, hr⟩
def rIsV (K : PySem.W.Frag) (D a dd : Addr) : List V → Hp → VK → Prop := fun xs H Q => ∃ (c : V) (cv : Value) (b : Bool) (fs : List (Str × V)), xs = [.ref a, c] ∧ H dd = some (.xd fs) ∧ (∀ u, RelV c u → u = cv) ∧ PySem.W.kitOne K (.ref D) cv = some b ∧ Q (.bl b) H
theorem call_isV (C : ExcC X.K D) (hz : Zc (.ref D) (some dd) oe) (hf : ∃ vs, oe.data = .fields vs) : CallR (X.tr ((a, oe) :: pn) xe) (.builtin "isinstance") (rIsV X.K D a dd) := by
  intro pins s σ H xs us Q I r h
  obtain ⟨c, cv, b, fs, rfl, hd, hcv, e, q⟩ := h
  obtain ⟨u1, u2, rfl, rx, rt⟩ := vals2 r
  cases (show u1 = Value.ref a from rx)
  have ec := hcv _ rt
  subst ec
  obtain ⟨od, J, _⟩ := pin_inst I hz hf hd
  exact PySem.W.kia_one (PySem.W.kitx_excD C.hg C.hk C.hs C.hd C.ha C.hn C.ht C.hm) I.kIn J e (fun z => nomatch z) fun tk => ⟨.bl b, H, I.kept (t' := tk) fun _ _ z => z, rfl, q⟩
/-- x.n, x the caught object -/
theorem pe_xfV {e : Expr} {te : TE} {pos : Pos} {n : Str} (T : XfC X.K D) (hno : PySem.W.findIn X.K (.ref D) n = some none) (hz : Zc (.ref D) (some dd) oe) (hf : ∃ vs, oe.data = .fields vs) (he : PE (X.tr ((a, oe) :: pn) xe) e te)
    (hb : attributeBase e n X.env (eval e X.env) = eval e X.env := by rfl) :
    PE (X.tr ((a, oe) :: pn) xe) (.Attribute e n pos) (fun σ H Q => te σ H fun x H1 => x = .ref a ∧ ∃ (fs : List (Str × V)) (v : V), H1 dd = some (.xd fs) ∧ fs.lookup n = some v ∧ Q v H1) := by
  refine ⟨fun pins s σ H Q I h => ?_⟩
  refine attr_of hb (thn (he.run pins s σ H _ I h) fun u s1 hh => ?_)
  obtain ⟨x, H1, I1, rx, ex, fs, v, ea, l, q⟩ := hh
  subst ex
  obtain rfl : u = Value.ref a := rx
  obtain ⟨od, J, mA, hl, hr⟩ := pin_inst I1 hz hf ea
  obtain ⟨u, hu, ru⟩ := RelO.some_of (v := v) (o := mA n) (by rw [← l]; exact hr n)
  exact HandSPX.exc_get I1.kIn J T.ga T.gg T.exC (PySem.W.findObj_own T.hdC hno rfl (by rw [hl, hu])) (handed_of ru) ⟨v, H1, I1.tok _, ru, q⟩
end
section
variable {X : Cx}
theorem call_repr_non : CallR X (.builtin "repr") (fun xs H Q => xs = [.non] ∧ Q (.str "None") H) := by
  intro pins s σ H xs us Q I r h
  obtain ⟨rfl, q⟩ := h
  obtain ⟨u, rfl, ru⟩ := vals1 r
  cases (show u = Value.none from ru)
  exact PySem.P.repr_of_none ⟨.str _, H, I.tok _, ⟨_, rfl⟩, q⟩
end
end KR
set_option Elab.async false
set_option linter.all false
set_option maxRecDepth 100000
set_option maxHeartbeats 4000000
namespace KD
open PySem PySem.Spec PyProof.Rows L2 KT KR LamX
/-- what _law_heard and its callers need of the exception classes -/
structure HeOk (K : PySem.W.Frag) (mg : Str → Option Value) (cN : Addr) : Prop where
  pad : ∃ cP, mg "PadError" = some (.ref cP) ∧ PySem.W.exmOne K (.ref cN) (.ref cP) = some true
  bp : ∃ c, mg "BadParts" = some (.ref c) ∧ PySem.W.kitOne K (.ref cN) (.ref c) = some false
  ta : ∃ c, mg "Taken" = some (.ref c) ∧ PySem.W.kitOne K (.ref cN) (.ref c) = some false
  ns : mg "NoScale" = some (.ref cN) ∧ PySem.W.kitOne K (.ref cN) (.ref cN) = some true
  bb : ∃ c, mg "BadBound" = some (.ref c) ∧ PySem.W.kitOne K (.ref cN) (.ref c) = some false
  ba : ∃ c, mg "Barred" = some (.ref c) ∧ PySem.W.kitOne K (.ref cN) (.ref c) = some false
  ex : ExcC K cN
  xf : XfC K cN
  nSc : PySem.W.findIn K (.ref cN) "scale" = some none
/-- the call raises NoScale(None): then ('scale', 'None') -/
def TTH (cN : Addr) : (XK → Hp → VK → Prop) → Hp → VK → Prop := fun tl H Q =>
  tl (fun cls d H' => cls = .ref cN ∧ ∃ dd, d = some dd ∧ H' dd = some (.xd [("scale", .non)]) ∧ ∀ p H2, Same H' H2 → H2 p = some (.tup [.str "scale", .str "None"]) → Q (.ref p) H2) H (fun _ _ => False)
theorem sc_L_heard : FnScope n_L_heard p_L_heard (defScope s_L_heard) := ⟨rfl, rfl, rfl, by decide +kernel, rfl, by decide +kernel, by decide +kernel⟩
theorem four {σ : L2.St} (h : σ.length = 4) : ∃ x0 x1 x2 x3, σ = [x0, x1, x2, x3] := by
  match σ, h with
  | [a, b, c, d], _ => exact ⟨a, b, c, d, rfl⟩
section
variable {X : Cx} {cN g : Addr} {cdg : Value} {q : Str}
theorem heard_gives (B : Blt X.mg) (HE : HeOk X.K X.mg cN) : GivesTo X n_L_heard "_law_heard" (defScope s_L_heard) g cdg (defBody s_L_heard) "_law_call" q (TTH cN) := by
  intro f c' s H Q tl act hc h
  have n := sc_L_heard.nd
  obtain ⟨cP, gP, eP⟩ := HE.pad
  obtain ⟨cBP, gBP, kBP⟩ := HE.bp
  obtain ⟨cTa, gTa, kTa⟩ := HE.ta
  obtain ⟨gNS, kNS⟩ := HE.ns
  obtain ⟨cBB, gBB, kBB⟩ := HE.bb
  obtain ⟨cBa, gBa, kBa⟩ := HE.ba
  refine ⟨_, pss_cons (ps_set (i := 1) n rfl (.inl rfl) pe_non)
      (pss_tryV (X := (cxOf C8.CX0 X.prog X.w X.K X.mg X.base n_L_heard "_law_heard" (defScope s_L_heard) g cdg X.A X.stack s H C8.E0).nox) (c := .ref cP) (i := 2)
        (tb := fun W D σ H => ∃ Ech : XK, (∀ cls d σ' H', Ech cls d H' → W cls d σ' H') ∧ σ[0]? = some (some (.ref f)) ∧ H c' = some (CodeO c' q) ∧ tl Ech H (fun _ H' => D.nx σ H'))
        (tr := fun a cls d D σ H => cls = .ref cN ∧ ∃ dd, d = some dd ∧ H dd = some (.xd [("scale", .non)]) ∧ σ.length = 4 ∧ σ[1]? = some (some (.ref a)) ∧ ∀ p H2, Same H H2 → H2 p = some (.tup [.str "scale", .str "None"]) → D.rt (.ref p) H2)
        rfl rfl n rfl rfl ⟨rfl, by decide, .inl gP⟩ L2.takes0 (fun W pn xe tk _ => ?_) (fun a oe cls d pn hz hf => pss_one (ps_set (i := 1) n rfl (.inl rfl) (pv 2))) (fun a oe cls d pn hz hf => ?_)), ?_⟩
  · refine ⟨fun pins s' σ H' D I h' => ?_⟩
    obtain ⟨Ech, hW, h1, h2, h3⟩ := h'
    exact PSs.run (pss_one (ps_expr (act W pn xe Ech _ _ tk hW))) pins s' σ H' D I ⟨h1, h2, h3⟩
  · refine ⟨fun pins s' σ H' D I h' => ?_⟩
    obtain ⟨rfl, dd, rfl, hdd, len, h1, k⟩ := h'
    obtain ⟨x0, x1, x2, x3, rfl⟩ := four len
    refine PSs.run (pss_ct (X := ((cxOf C8.CX0 X.prog X.w X.K X.mg X.base n_L_heard "_law_heard" (defScope s_L_heard) g cdg X.A X.stack s H C8.E0).nox).tr ((a, oe) :: pn) ((cxOf C8.CX0 X.prog X.w X.K X.mg X.base n_L_heard "_law_heard" (defScope s_L_heard) g cdg X.A X.stack s H C8.E0).nox).xe)
      (ps_if (pt_cmp (pc_isN (pv 1)) rfl)
        (pss_one (ps_ret pe_non))
        pss_nil)
      (pss_cons (ps_set (i := 3) n rfl (.inl rfl) (pe_lst pa_nil))
      (pss_ct (ps_if (pt_val (pe_callB (call_isV HE.ex hz hf) (by rfl) B.isinstance (by decide +kernel) (pa_cons (pv 1) (pa_cons (C8.pe_gc (by rfl) (gref gBP)) pa_nil))))
        pss_never
        pss_nil)
      (pss_ct (ps_if (pt_val (pe_callB (call_isV HE.ex hz hf) (by rfl) B.isinstance (by decide +kernel) (pa_cons (pv 1) (pa_cons (C8.pe_gc (by rfl) (gref gTa)) pa_nil))))
        pss_never
        pss_nil)
      (pss_ct (ps_if (pt_val (pe_callB (call_isV HE.ex hz hf) (by rfl) B.isinstance (by decide +kernel) (pa_cons (pv 1) (pa_cons (C8.pe_gc (by rfl) (gref gNS)) pa_nil))))
        (pss_one (ps_expr (pe_bm PySem.F.plainAttrs_list PySem.F.slot_list_append PySem.F.type_list_append mt_append (pv 3) (pa_cons (pe_tup (pa_cons pe_str (pa_cons (pe_callB call_repr_non (by rfl) B.repr (by decide +kernel) (pa_cons (pe_xfV HE.xf HE.nSc hz hf (pv 1)) pa_nil)) pa_nil))) pa_nil))))
        pss_nil)
      (pss_ct (ps_if (pt_val (pe_callB (call_isV HE.ex hz hf) (by rfl) B.isinstance (by decide +kernel) (pa_cons (pv 1) (pa_cons (C8.pe_gc (by rfl) (gref gBB)) pa_nil))))
        pss_never
        pss_nil)
      (pss_ct (ps_if (pt_val (pe_callB (call_isV HE.ex hz hf) (by rfl) B.isinstance (by decide +kernel) (pa_cons (pv 1) (pa_cons (C8.pe_gc (by rfl) (gref gBa)) pa_nil))))
        pss_never
        pss_nil)
      (pss_one (ps_ret (pe_ifExp (pt_cmpR op_eq (pe_callB call_len_seq (by rfl) B.len (by decide +kernel) (pa_cons (pv 3) pa_nil)) pe_int (nomark _)) (pe_ix ix_list (pv 3) pe_int (fun _ _ => rfl)) pe_str)))))))))) pins s' _ H' D I ?_
    obtain rfl : x1 = some (.ref a) := by simpa using h1
    refine ⟨fun σ1 H1 => σ1 = [x0, some (.ref a), x2, x3] ∧ H1 = H', ⟨_, rfl, _, rfl, iff0 rfl ⟨rfl, rfl⟩⟩, ?_⟩
    rintro σ1 H1 ⟨rfl, rfl⟩
    refine ⟨by decide, fun l hl => ?_⟩
    have s2 := same_new (o := .lst []) hl
    have hl2 : upd H1 l (.lst []) l = some (.lst []) := upd_same
    have hd2 := s2 _ _ hdd
    generalize upd H1 l (.lst []) = H2 at s2 hl2 hd2 ⊢
    refine ⟨fun σ1 H1 => σ1 = [x0, some (.ref a), x2, some (.ref l)] ∧ H1 = H2, u_if (u_B ⟨_, rfl, _, _, false, _, rfl, hd2, fun _ h => h, kBP, _, rfl, iff0 rfl ⟨rfl, rfl⟩⟩), ?_⟩
    rintro σ1 H1 ⟨rfl, rfl⟩
    refine ⟨fun σ1 H2 => σ1 = [x0, some (.ref a), x2, some (.ref l)] ∧ H2 = H1, u_if (u_B ⟨_, rfl, _, _, false, _, rfl, hd2, fun _ h => h, kTa, _, rfl, iff0 rfl ⟨rfl, rfl⟩⟩), ?_⟩
    rintro σ1 H2 ⟨rfl, rfl⟩
    refine ⟨fun σ1 H3 => σ1 = [x0, some (.ref a), x2, some (.ref l)] ∧ ∃ p, H3 l = some (.lst [.ref p]) ∧ H3 p = some (.tup [.str "scale", .str "None"]) ∧ H3 dd = some (.xd [("scale", .non)]) ∧ D.rt (.ref p) H3, ?_, ?_⟩
    · refine u_if (u_B ⟨_, rfl, _, _, true, _, rfl, hd2, fun _ h => h, kNS, _, rfl, ift rfl ?_⟩)
      refine ⟨_, rfl, .inl ⟨rfl, _, SqL.of hl2⟩, _, rfl, rfl, _, _, hd2, rfl, rfl, two_ok, fun p hp => ?_⟩
      have s3 := same_new (o := .tup [.str "scale", .str "None"]) hp
      have npl : p ≠ l := ne_fresh hl2 hp
      have ndl : dd ≠ l := fun e => by rw [e, hl2] at hd2; cases hd2
      refine ⟨l, _, _, rfl, rfl, s3 _ _ hl2, by decide, rfl, p, upd_same, by rw [upd_ne npl, upd_same], by rw [upd_ne ndl]; exact s3 _ _ hd2, ?_⟩
      exact k p _ (same_mut (s2.trans s3) hl) (by rw [upd_ne npl, upd_same])
    rintro σ1 H3 ⟨rfl, p, h3, hp3, hd3, k3⟩
    refine ⟨fun σ1 H4 => σ1 = [x0, some (.ref a), x2, some (.ref l)] ∧ H4 = H3, u_if (u_B ⟨_, rfl, _, _, false, _, rfl, hd3, fun _ h => h, kBB, _, rfl, iff0 rfl ⟨rfl, rfl⟩⟩), ?_⟩
    rintro σ1 H4 ⟨rfl, rfl⟩
    refine ⟨fun σ1 H5 => σ1 = [x0, some (.ref a), x2, some (.ref l)] ∧ H5 = H4, u_if (u_B ⟨_, rfl, _, _, false, _, rfl, hd3, fun _ h => h, kBa, _, rfl, iff0 rfl ⟨rfl, rfl⟩⟩), ?_⟩
    rintro σ1 H5 ⟨rfl, rfl⟩
    exact u_ie ⟨_, rfl, l, _, rfl, .inl (SqL.of h3), rfl, _, rfl, ift rfl ⟨_, rfl, l, _, _, _, rfl, rfl, SqL.of h3, rfl, k3⟩⟩
  · refine ⟨_, fun cls d σ' H' hE => ?_, rfl, hc, h⟩
    obtain ⟨rfl, dd, rfl, hdd, k⟩ := hE
    refine ⟨true, eP, fun _ a na len => ?_, fun z => nomatch z⟩
    obtain ⟨x0, x1, x2, x3, rfl⟩ := four len
    exact ⟨_, rfl, rfl, dd, rfl, hdd, rfl, rfl, k⟩
end
end KD
set_option Elab.async false
set_option linter.all false
set_option maxRecDepth 100000
set_option maxHeartbeats 4000000
namespace KD
open PySem PySem.Spec PyProof.Rows L2 KT KR LamX
section
variable {P : Program} {w : World} {K : PySem.W.Frag} {mg : Str → Option Value} {base : Heap} {f fI : Addr} {fd : FuncData} {C : Kd} {cN : Addr}
/-- zones of other kinds -/
def Odd2 (cK cZ : Addr) (H : Hp) (z z' : Addr) : Prop := ∃ kas kas' ks ks' told told' T T', ZoneAt cK cZ H z kas ks told T ∧ ZoneAt cK cZ H z' kas' ks' told' T' ∧ ZOk ks told T ∧ ZOk ks' told' T' ∧ told.length + told'.length ≤ 1000 ∧ Dif ks ks'
theorem Odd2.mono {cK cZ : Addr} {H H' : Hp} {z z' : Addr} (s : Same H H') (h : Odd2 cK cZ H z z') : Odd2 cK cZ H' z z' := let ⟨a, b, c, d, e, f, g, i, h1, h2, r⟩ := h; ⟨a, b, c, d, e, f, g, i, h1.mono s, h2.mono s, r⟩
def spLJoin (cK cZ cN : Addr) : Sp := fun vs H Q E => ∃ z z', vs = [.ref z, .ref z'] ∧ Odd2 cK cZ H z z' ∧ NoSc cN H E
theorem sc_L_joined : FnScope n_L_joined p_L_joined (defScope s_L_joined) := ⟨rfl, rfl, rfl, by decide +kernel, rfl, by decide +kernel, by decide +kernel⟩
theorem odd_and {H : Hp} {z z' : Addr} {Q : VK} {E : XK} (h : Odd2 C.kind C.zone H z z') (q : NoSc cN H E) : rBinI C.zone (spAnd C.kind C.zone cN) E (.ref z) (.ref z') H Q := by
  obtain ⟨kas, kas', ks, ks', told, told', T, T', h1, h2, o1, o2, len, d⟩ := h
  obtain ⟨dx, kt, st, nt, tt, tv, bas, a1, _⟩ := id h1
  obtain ⟨dx', kt', st', nt', tt', tv', bas', a1', _⟩ := id h2
  exact ⟨z, dx, _, z', dx', _, rfl, rfl, a1, a1', z, z', kas, kas', ks, ks', told, told', T, T', rfl, h1, h2, o1, o2, len, .inr ⟨d, q⟩⟩
theorem odd_le {H : Hp} {z z' : Addr} {Q : VK} {E : XK} (Y : ZgOk K mg C) (O : ZoOk K C.zone) (h : Odd2 C.kind C.zone H z z') (q : NoSc cN H E) : rCmpI K C.zone (spLe C.kind C.zone cN) E (.ref z) (.ref z') H Q := by
  obtain ⟨kas, kas', ks, ks', told, told', T, T', h1, h2, o1, o2, len, d⟩ := h
  obtain ⟨dx, kt, st, nt, tt, tv, bas, a1, _⟩ := id h1
  obtain ⟨dx', kt', st', nt', tt', tv', bas', a1', _⟩ := id h2
  exact ⟨z, dx, _, _, rfl, a1, Y.kl.ty a1', O.nfZ, z, z', kas, kas', ks, ks', told, told', T, T', rfl, h1, h2, o1, o2, .inr ⟨d, q⟩⟩
theorem odd_eq {H : Hp} {z z' : Addr} {Q : VK} (Y : ZgOk K mg C) (O : ZoOk K C.zone) (h : Odd2 C.kind C.zone H z z') (q : ∀ H', Same H H' → Q (.bl false) H') : rCmpI K C.zone (spZeq C.kind C.zone) E0 (.ref z) (.ref z') H Q := by
  obtain ⟨kas, kas', ks, ks', told, told', T, T', h1, h2, o1, o2, len, d⟩ := h
  obtain ⟨dx, kt, st, nt, tt, tv, bas, a1, _⟩ := id h1
  obtain ⟨dx', kt', st', nt', tt', tv', bas', a1', _⟩ := id h2
  exact ⟨z, dx, _, _, rfl, a1, Y.kl.ty a1', O.nfZ, z, kas, ks, told, T, _, rfl, h1, o1, .inl ⟨z', kas', ks', told', T', rfl, h2, o2, .inr ⟨d, q⟩⟩⟩
theorem ok_L_joined (O : ZoOk K C.zone) (M : ZoM P w K mg base C cN) (F : FnDf K "_law_joined" "_law_joined" s_L_joined f fd) : FnOk P w K mg base (L2.CX P w) 7 f fd p_L_joined (spLJoin C.kind C.zone cN) := by
  refine F.ok sc_L_joined (fun vs H Q E h => ?_) (fun cdv A outer s H vs Q E hr h => ?_)
  · obtain ⟨z, z', rfl, _⟩ := h; rfl
  · obtain ⟨z, z', rfl, hz, q⟩ := h
    have n := sc_L_joined.nd
    have tk := L2.takes_of (X := cxOf (L2.CX P w) P w K mg base n_L_joined "_law_joined" (defScope s_L_joined) f cdv A outer s H E) rfl rfl rfl rfl
    refine ⟨_, pss_cons (ps_aug (i := 0) n rfl (.inl rfl) (pv 1) (ip_binI (op := .BitAnd) (CX := L2.CX P w) (E := E) (by decide) O.iand O.self M.and_ (hr.mono (by decide)) (L2.passes_call tk fun _ _ _ _ h => h))) (pss_one (ps_ret (pv 0))), ?_⟩
    exact ⟨_, rfl, _, rfl, odd_and hz q⟩
end
end KD
set_option Elab.async false
set_option linter.all false
set_option maxRecDepth 100000
set_option maxHeartbeats 4000000
namespace KD
open PySem PySem.Spec PyProof.Rows L2 KT KR LamX
/-- the heap without the tables of code objects -/
def hideT (H : Hp) : Hp := fun b => match H b with
  | some (.tbl _) => none
  | o => o
theorem hideT_same {H : Hp} : Same (hideT H) H := fun b u e => by
  unfold hideT at e
  split at e
  · cases e
  · exact e
theorem hideT_of {H : Hp} {b : Addr} {o : HO} (h : H b = some o) (n : ∀ ps, o ≠ .tbl ps) : hideT H b = some o := by
  unfold hideT
  rw [h]
  split
  · rename_i ps e
    exact absurd (Option.some.inj e) (n ps)
  · rfl
theorem hideT_at {H : Hp} {b : Addr} {o : HO} (h : hideT H b = some o) : H b = some o ∧ ∀ ps, o ≠ .tbl ps := by
  unfold hideT at h
  split at h
  · cases h
  · rename_i n
    exact ⟨h, fun ps e => n ps (by rw [h, e])⟩
theorem hideT_mono {H H' : Hp} (s : Same H H') : Same (hideT H) (hideT H') := fun b o h => by
  obtain ⟨a, n⟩ := hideT_at h
  exact hideT_of (s _ _ a) n
theorem hideT_ext {H H' : Hp} (s : ExtN H H') : Same (hideT H) (hideT H') := fun b o h => by
  obtain ⟨a, n⟩ := hideT_at h
  exact hideT_of (s _ _ a n) n
theorem zone_hideT {cK cZ : Addr} {H : Hp} {z : Addr} {kas : List Addr} {ks : List Kn} {told : List Bd} {T : Option Tb} (h : ZoneAt cK cZ H z kas ks told T) : ZoneAt cK cZ (hideT H) z kas ks told T := by
  obtain ⟨dx, kt, st, nt, tt, tv, bas, h1, h2, h3, h4, h5, h6, h7, h8⟩ := h
  have k : ∀ {b : Addr} {o : HO}, H b = some o → (∀ ps, o ≠ .tbl ps) → hideT H b = some o := fun e n => hideT_of e n
  refine ⟨dx, kt, st, nt, tt, tv, bas, k h1 (by intro _ z; cases z), k h2 (by intro _ z; cases z), Paired.mono (fun _ _ ⟨d, e⟩ => ⟨d, k e (by intro _ z; cases z)⟩) h3, k h4 (by intro _ z; cases z), k h5 (by intro _ z; cases z), k h6 (by intro _ z; cases z), Paired.mono (fun _ _ e => k e (by intro _ z; cases z)) h7, ?_⟩
  cases T with
  | none => exact h8
  | some T =>
    obtain ⟨d, kvs, e, hd, r⟩ := h8
    exact ⟨d, kvs, e, k hd (by intro _ z; cases z), r⟩
theorem odd_hideT {cK cZ : Addr} {H : Hp} {z z' : Addr} (h : Odd2 cK cZ H z z') : Odd2 cK cZ (hideT H) z z' := let ⟨a, b, c, d, e, f, g, i, h1, h2, r⟩ := h; ⟨a, b, c, d, e, f, g, i, zone_hideT h1, zone_hideT h2, r⟩
/-- a def whose code object is known -/
def FunC (K : PySem.W.Frag) (x qual : Str) (pa : Arguments) (bd : List Stmt) (sc : Scope) (f : Addr) (fd : FuncData) (c : Addr) : Prop :=
  ∃ (oc : Value) (od : Option Addr) (dV kV doc pm : Value) (an : Option Addr) (ct : Value) (osl : Array (Option Value)), fd = PySem.W.fnOf x qual pa bd sc dV kV doc pm an (.ref c) ct ∧ K.lookup f = some ⟨oc, od, .func fd, osl⟩ ∧ PySem.W.codeIn K (.ref c) qual = true
def qO : Str := "_law_others_refused.<locals>.<lambda>"
theorem Paired.rev {α β : Type} {F : α → β → Prop} : ∀ {l : List α} {r : List β}, Paired F l r → Paired F l.reverse r.reverse
  | _, _, .nil => .nil
  | _, _, .cons h t => by
    rw [List.reverse_cons, List.reverse_cons]
    exact Paired.app (Paired.rev t) (.cons h .nil)
/-- _law_heard as it is called -/
def HdF (K : PySem.W.Frag) (mg : Str → Option Value) : Prop := ∃ g fdg, mg "_law_heard" = some (.ref g) ∧ PySem.W.keepIn K (.ref g) = true ∧ FnDf K "_law_heard" "_law_heard" s_L_heard g fdg ∧ L2.Binds K fdg ["_law_call"] []
theorem rev_dif {ks : List Kn} (ok : KsOk ks) (h : 1 < ks.length) : Dif ks ks.reverse := by
  obtain ⟨ne, le, nm, tm, nd⟩ := ok
  match ks, h, le with
  | [a, b], _, _ =>
    refine ⟨a, [b], b, [a], rfl, rfl, fun e => ?_⟩
    rw [e] at nd
    simp at nd
  | [a, b, c], _, _ =>
    refine ⟨a, [b, c], c, [b, a], rfl, rfl, fun e => ?_⟩
    rw [e] at nd
    simp at nd
theorem tl_dif {ks : List Kn} (ok : KsOk ks) (h : 1 < ks.length) : Dif ks ks.tail := by
  obtain ⟨ne, le, nm, tm, nd⟩ := ok
  match ks, h with
  | a :: b :: r, _ =>
    refine ⟨a, b :: r, b, r, rfl, rfl, fun e => ?_⟩
    rw [e] at nd
    simp at nd
theorem ks_sub {ks ks' : List Kn} (ok : KsOk ks) (h1 : 1 ≤ ks'.length) (h3 : ks'.length ≤ 3) (s : ∀ k ∈ ks', k ∈ ks) (nd : (ks'.map (·.1)).Nodup) : KsOk ks' := ⟨h1, h3, fun k hk => ok.nm k (s k hk), fun k hk => ok.tm k (s k hk), nd⟩
theorem one_ok : (1 : Nat) ≤ sizeLine := by rw [sizeLine_eq]; decide
theorem at0 {α : Type} (x : α) (xs : List α) : atI (x :: xs) 0 = some x := by
  unfold atI ixN
  rw [if_pos (by decide), if_pos (by rw [List.length_cons]; omega)]
  rfl
section
variable {P : Program} {w : World} {K : PySem.W.Frag} {mg : Str → Option Value} {base : Heap} {f fI cO pO : Addr} {fd : FuncData} {C : Kd} {cN : Addr}
def spOthers (cK cZ pO : Addr) : Sp := fun vs H Q _ => ∃ (l z : Addr) (kas : List Addr) (ks : List Kn) (told : List Bd) (T : Option Tb), vs = [.ref l, .ref z] ∧ KlAt cK H l kas ks ∧ KsOk ks ∧ (∀ k ∈ ks, k.2 ≠ 4) ∧ Zo cK cZ kas ks H z told T ∧ told.length ≤ 40 ∧ Tabs [(pO, qO)] H ∧
  ∀ H', Same (hideT H) (hideT H') → Tabs [(pO, qO)] H' → Q (.bl true) H'
theorem sc_L_others_refused : FnScope n_L_others_refused p_L_others_refused (defScope s_L_others_refused) := ⟨rfl, rfl, rfl, by decide +kernel, rfl, by decide +kernel, by decide +kernel⟩
theorem ok_L_others (B : Blt mg) (T0 : KdOk K mg C) (Y : ZgOk K mg C) (Z : ZnOk K C.zone) (O : ZoOk K C.zone) (M : ZoM P w K mg base C cN) (HE : HeOk K mg cN) (OF : OfOk P w K mg base C) (MK : Mk K C.kind fI) (FI : FnR P w K mg base CX0 4 fI (spKI C.kind)) (HD : HdF K mg)
    (GJ : Fd P w K mg base (L2.CX P w) 7 "_law_joined" (spLJoin C.kind C.zone cN)) (TB : TabB base mg cO pO) (F : FunC K "_law_others_refused" "_law_others_refused" (defArgs s_L_others_refused) (defBody s_L_others_refused) (defScope s_L_others_refused) f fd cO) :
    FnOk P w K mg base CX0 11 f fd p_L_others_refused (spOthers C.kind C.zone pO) := by
  obtain ⟨oc, od, dV, kV, doc, pm, an, ct, osl, rfl, lk, hcd⟩ := F
  obtain ⟨g, fdg, gH, kH, FH, bH⟩ := HD
  obtain ⟨oc2, od2, dV2, kV2, doc2, pm2, an2, cdv2, ct2, osl2, rfl, lk2, hcd2, _, _⟩ := FH.ex
  obtain ⟨mc, gOf, o, cr, cm, FO⟩ := OF
  refine fn_of lk hcd sc_L_others_refused (fun vs H Q E h => ?_) (fun A outer s H vs Q E hr h => ?_)
  · obtain ⟨l, z, kas, ks, told, T, rfl, _⟩ := h; rfl
  · obtain ⟨l, z, kas, ks, told, T, rfl, hl, ok, t4, hz, lt, tabs, q⟩ := h
    have hu := hu_of hr
    have n := sc_L_others_refused.nd
    have lam : ∀ {params : Arguments} {body : Expr} {scope : Scope} {t : XK → TE} {p lpos pos : Pos} (L : LamS (defScope s_L_others_refused) scope)
        (hdef : defaultsOf params (cxOf CX0 P w K mg base n_L_others_refused "_law_others_refused" (defScope s_L_others_refused) f (.ref cO) A outer s H E).nox.env = ([], []))
        (hbind : ∀ (q : Str) (cl : List (Str × Addr)) (pm cv ctv : Value), bindArgs (PySem.W.kla_fn "<lambda>" q params body scope cl pm cv ctv) ⟨[], []⟩ = pure [])
        (hbody : ∀ (A' : Around) (outer' : List Env) (s' : Shared) (H' : Hp) (E' : XK) (f' c' : Addr), Room 8 (A'.deeper (lamEnv (cxOf CX0 P w K mg base n_L_others_refused "_law_others_refused" (defScope s_L_others_refused) f (.ref cO) A outer s H E).nox scope s'.heap.objs.size f' c')) → PE (lamCx (cxOf CX0 P w K mg base n_L_others_refused "_law_others_refused" (defScope s_L_others_refused) f (.ref cO) A outer s H E).nox A' outer' s' H' E' scope f' c') body (t E')),
        PE (cxOf CX0 P w K mg base n_L_others_refused "_law_others_refused" (defScope s_L_others_refused) f (.ref cO) A outer s H E).nox (.Call (.Name "_law_heard" p) [.Lambda params body scope lpos] [] pos) (tLam [(pO, qO)] (TTH cN) t) := fun {params body scope t p lpos pos} L hdef hbind hbody =>
      pe_lamcall (X := (cxOf CX0 P w K mg base n_L_others_refused "_law_others_refused" (defScope s_L_others_refused) f (.ref cO) A outer s H E).nox) (a := "_law_call") (k := 8) rfl gH kH lk2 hcd2 bH sc_L_heard rfl (.inl rfl) (heard_gives B HE) TB rfl (List.mem_singleton.mpr rfl) (fun p hp _ => by rw [List.mem_singleton.mp hp]; rfl) hr L hdef hbind hbody
    refine ⟨_, PSs.nox (pss_cons (ps_set (i := 2) n rfl (.inl rfl) (pe_lst (pa_cons (ClX.pe_cmeth (C8.pe_gc (by rfl) (gref Y.gZone)) cr cm FO (hr.mono (by decide)) pass0 (pa_cons (pe_op op_cat (pe_lst (pa_cons (StX.pe_makeR MK FI (hr.mono (by decide)) rfl T0.gKind pass0 (pa_cons (pe_fld (pe_ix ix_list (pv 0) pe_int (fun _ _ => rfl)) rfl) (pa_cons pe_int pa_nil))) pa_nil)) (pe_slice sl_list (pv 0) (po_some pe_int) po_none)) pa_nil)) pa_nil)))
      (pss_ct (ps_if (pt_cmpR op_gt (pe_callB call_len_seq (by rfl) B.len (by decide +kernel) (pa_cons (pv 0) pa_nil)) pe_int (nomark _))
        (pss_one (ps_set (i := 2) n rfl (.inl rfl) (pe_op op_cat (pv 2) (pe_lst (pa_cons (ClX.pe_cmeth (C8.pe_gc (by rfl) (gref Y.gZone)) cr cm FO (hr.mono (by decide)) pass0 (pa_cons (pe_revL (pv 0)) pa_nil)) (pa_cons (ClX.pe_cmeth (C8.pe_gc (by rfl) (gref Y.gZone)) cr cm FO (hr.mono (by decide)) pass0 (pa_cons (pe_slice sl_list (pv 0) (po_some pe_int) po_none) pa_nil)) pa_nil))))))
        pss_nil)
      (pss_cons (ps_for PassesOwn.never rfl (pi_list (pv 2)) (pg_name (i := 3) n rfl (.inr rfl))
        (pss_ct (ps_if (PW.pt (pw_or (pt_cmpR (op_neD hr.units) (lam (t := fun E' => tOp (rBinI C.zone (spAnd C.kind C.zone cN) E') (tVar 1) (tVar 3)) (lamS_by (by decide +kernel)) rfl (fun _ _ _ _ _ => rfl) (fun A' outer' s' H' E' f' c' hr' => pe_op (op_binI (op := .BitAnd) (CX := L2.CX P w) (E := E') O.self M.and_ (hr'.mono (by decide)) (L2.passes_call (L2.takes_of (X := lamCx (cxOf CX0 P w K mg base n_L_others_refused "_law_others_refused" (defScope s_L_others_refused) f (.ref cO) A outer s H E).nox A' outer' s' H' E' _ f' c') rfl rfl rfl rfl) fun _ _ _ _ h => h)) (pv 1) (pv 3))) (pe_tup (pa_cons pe_str (pa_cons pe_str pa_nil))) (nomark _)) (pw_or1 (pt_cmpR (op_eqZ M (hr.mono (by decide))) (pv 1) (pv 3) (nomark _)))))
            (pss_one (ps_ret pe_bl))
            pss_nil)
          (pss_ct (ps_if (pt_cmpR (op_neD hr.units) (lam (t := fun E' => tOp (rCmpI K C.zone (spLe C.kind C.zone cN) E') (tVar 1) (tVar 3)) (lamS_by (by decide +kernel)) rfl (fun _ _ _ _ _ => rfl) (fun A' outer' s' H' E' f' c' hr' => pe_cmpR (op_cmpI (op := .LtE) (CX := L2.CX P w) (E := E') (fun _ _ => rfl) M.le (hr'.mono (by decide)) (L2.passes_call (L2.takes_of (X := lamCx (cxOf CX0 P w K mg base n_L_others_refused "_law_others_refused" (defScope s_L_others_refused) f (.ref cO) A outer s H E).nox A' outer' s' H' E' _ f' c') rfl rfl rfl rfl) fun _ _ _ _ h => h)) (pv 1) (pv 3) (nomark _))) (pe_tup (pa_cons pe_str (pa_cons pe_str pa_nil))) (nomark _))
            (pss_one (ps_ret pe_bl))
            pss_nil)
          (pss_one (ps_if (pt_cmpR (op_neD hr.units) (lam (t := fun E' => tCR (spLJoin C.kind C.zone cN) E' (tCons (tVar 1) (tCons (tVar 3) tNil))) (lamS_by (by decide +kernel)) rfl (fun _ _ _ _ _ => rfl) (fun A' outer' s' H' E' f' c' hr' => pe_d (E := E') GJ (hr'.mono (by decide)) (L2.passes_call (L2.takes_of (X := lamCx (cxOf CX0 P w K mg base n_L_others_refused "_law_others_refused" (defScope s_L_others_refused) f (.ref cO) A outer s H E).nox A' outer' s' H' E' _ f' c') rfl rfl rfl rfl) fun _ _ _ _ h => h) (pa_cons (pv 1) (pa_cons (pv 3) pa_nil)))) (pe_tup (pa_cons pe_str (pa_cons pe_str pa_nil))) (nomark _))
            (pss_one (ps_ret pe_bl))
            pss_nil)))))
      (pss_one (ps_ret (pe_and (pe_cmpR (op_neZ O Y M (hr.mono (by decide))) (pv 1) pe_non (nomark _)) (pe_and (pe_cmpR (op_neZ O Y M (hr.mono (by decide))) (pv 1) pe_str (nomark _)) (pe_one (pe_not (pe_cmpR (op_eqZ M (hr.mono (by decide))) (pv 1) (pe_fld (pv 1) rfl) (nomark _))))))))))), ?_⟩
    obtain ⟨k0, kr, rfl⟩ : ∃ k0 kr, ks = k0 :: kr := by
      have := ok.ne
      cases ks with
      | nil => simp at this
      | cons a r => exact ⟨a, r, rfl⟩
    obtain ⟨a0, ar, rfl, ka0⟩ := heads hl.2
    have kar : KdsAt C.kind H ar kr := by cases hl.2 with | cons _ t => exact t
    have g0 := ok.nm k0 (List.mem_cons_self ..)
    have l3 : kr.length ≤ 2 := by have := ok.le; simpa using this
    have lar : ar.length = kr.length := kar.length
    obtain ⟨dx0, e0⟩ := ka0
    have own9 : ∀ ks' : List Kn, ks'.length ≤ 3 → (own ks').length ≤ 9 := fun ks' h => by rw [own_len]; omega
    refine ⟨rfl, _, rfl, l, _, _, _, rfl, rfl, SqL.of hl.1, at0 _ _, a0, _, dx0, _, _, rfl, e0, T0.kind.cl, T0.nName, rfl, fun x dx hx hdx nxd => ?_⟩
    have sx0 : Same H (upd H dx (.own x)) := same_new hdx
    refine ⟨x, dx, k0.1, 4, rfl, upd_same, g0, by decide, by decide, fun H1 s1' k1 => ⟨rfl, one_ok, fun lk hlk => ?_⟩⟩
    have s1 : Same H H1 := fun b o hb => s1' _ _ (by
      rw [hide_ne (ne_of_none hb hx), upd_ne (ne_of_none hb hx)]
      exact sx0 _ _ hb)
    have s2 := same_new (o := .lst [.ref x]) hlk
    refine ⟨_, rfl, _, rfl, l, _, rfl, SqL.of ((s1.trans s2) _ _ hl.1), fun sl hsl => ?_⟩
    rw [show cutV ((a0 :: ar).map V.ref) (some 1) none = ar.map V.ref from cut_tl _ _]
    have s3 := same_new (o := .lst (ar.map V.ref)) hsl
    refine ⟨lk, sl, _, _, rfl, rfl, s3 _ _ upd_same, upd_same, by rw [List.length_map, sizeLine_eq]; simp only [List.length_cons, List.length_nil]; omega, fun nl hnl => ?_⟩
    have s4 := same_new (o := .lst ([.ref x] ++ ar.map V.ref)) hnl
    have s14 := s1.trans (s2.trans (s3.trans s4))
    have okn : KsOk ((k0.1, 4) :: kr) := ⟨ok.ne, ok.le, fun k hk => by
      rcases List.mem_cons.mp hk with z | z
      · rw [z]; exact g0
      · exact ok.nm k (List.mem_cons_of_mem _ z), fun k hk => by
      rcases List.mem_cons.mp hk with z | z
      · rw [z]; exact ⟨show (1 : Int) ≤ 4 by decide, show (4 : Int) ≤ 8 by decide⟩
      · exact ok.tm k (List.mem_cons_of_mem _ z), ok.nd⟩
    refine ⟨nl, x :: ar, (k0.1, 4) :: kr, rfl, upd_same, .cons (k1.mono (s2.trans (s3.trans s4))) (kar.mono s14), okn, fun z1 H5 s5 hz1 => ?_⟩
    have s15 := s14.trans s5
    have d1 : Odd2 C.kind C.zone H5 z z1 := ⟨_, _, _, _, _, _, _, _, hz.1.mono s15, hz1, hz.2, zok_own okn, by have := own9 _ okn.le; omega, k0, kr, (k0.1, 4), kr, rfl, rfl, fun e => by
      have := t4 k0 (List.mem_cons_self ..)
      rw [e] at this
      exact this rfl⟩
    refine ⟨one_ok, fun ol hol => ?_⟩
    have s6 := same_new (o := .lst [.ref z1]) hol
    have s16 := s15.trans s6
    have hol6 : upd H5 ol (.lst [.ref z1]) ol = some (.lst [.ref z1]) := upd_same
    have d6 := d1.mono s6
    generalize upd H5 ol (.lst [.ref z1]) = H6 at s6 s16 hol6 d6 ⊢
    refine ⟨fun σ' H' => ∃ (ol' : Addr) (zs : List Addr), σ' = [some (.ref l), some (.ref z), some (.ref ol'), none] ∧ Same H H' ∧ H' ol' = some (.lst (zs.map V.ref)) ∧ zs.length ≤ 3 ∧ ∀ a ∈ zs, Odd2 C.kind C.zone H' z a, ?_, ?_⟩
    · refine u_if (u_B ⟨_, rfl, l, _, rfl, .inl (SqL.of (s16 _ _ hl.1)), _, _, rfl, rfl, _, rfl, ?_⟩)
      refine if2 (fun gt => ?_) (fun _ => ⟨ol, [z1], rfl, s16, hol6, (by show (1 : Nat) ≤ 3; decide), fun a ha => by rw [List.mem_singleton.mp ha]; exact d6⟩)
      have gt := of_decide_eq_true gt
      have lk2 : 1 < (k0 :: kr).length := by rw [List.length_map, List.length_cons, lar] at gt; rw [List.length_cons]; omega
      have hl6 := s16 _ _ hl.1
      have okr : KsOk (k0 :: kr).reverse := ks_sub ok (by simp) (by rw [List.length_reverse]; exact ok.le) (fun k hk => List.mem_reverse.mp hk) (by rw [List.map_reverse]; exact List.pairwise_reverse.mpr (List.Pairwise.imp Ne.symm ok.nd))
      have okt : KsOk kr := ks_sub ok (by rw [List.length_cons] at lk2; omega) (by omega) (fun k hk => List.mem_cons_of_mem _ hk) (List.nodup_cons.mp ok.nd).2
      refine ⟨_, rfl, rfl, _, rfl, l, _, rfl, SqL.of hl6, fun lr hlr => ?_⟩
      have s7 := same_new (o := .lst ((a0 :: ar).map V.ref).reverse) hlr
      have s17 := s16.trans s7
      refine ⟨lr, (a0 :: ar).reverse, (k0 :: kr).reverse, rfl, by rw [upd_same, List.map_reverse], KdsAt.mono s17 (Paired.rev hl.2), okr, fun z2 H8 s8 hz2 => ?_⟩
      have s18 := s17.trans s8
      refine ⟨rfl, _, rfl, _, rfl, l, _, rfl, SqL.of (s18 _ _ hl.1), fun lt2 hlt2 => ?_⟩
      rw [show cutV ((a0 :: ar).map V.ref) (some 1) none = ar.map V.ref from cut_tl _ _]
      have s9 := same_new (o := .lst (ar.map V.ref)) hlt2
      have s19 := s18.trans s9
      refine ⟨lt2, ar, kr, rfl, upd_same, kar.mono s19, okt, fun z3 H10 s10 hz3 => ?_⟩
      have s110 := s19.trans s10
      have s610 := s7.trans (s8.trans (s9.trans s10))
      refine ⟨two_ok, fun l2 hl2 => ?_⟩
      have s11 := same_new (o := .lst [.ref z2, .ref z3]) hl2
      refine ⟨ol, l2, _, _, rfl, rfl, s11 _ _ (s610 _ _ hol6), upd_same, three_ok, fun ol2 hol2 => ?_⟩
      have s12 := same_new (o := .lst ([.ref z1] ++ [.ref z2, .ref z3])) hol2
      have s112 := s110.trans (s11.trans s12)
      refine ⟨ol2, [z1, z2, z3], rfl, s112, upd_same, (by show (3 : Nat) ≤ 3; decide), fun a ha => ?_⟩
      simp only [List.mem_cons, List.not_mem_nil, or_false] at ha
      rcases ha with rfl | rfl | rfl
      · exact d6.mono (s610.trans (s11.trans s12))
      · exact ⟨_, _, _, _, _, _, _, _, hz.1.mono s112, hz2.mono (s9.trans (s10.trans (s11.trans s12))), hz.2, zok_own okr, by have := own9 _ okr.le; omega, rev_dif ok lk2⟩
      · exact ⟨_, _, _, _, _, _, _, _, hz.1.mono s112, hz3.mono (s11.trans s12), hz.2, zok_own okt, by have := own9 _ okt.le; omega, tl_dif ok lk2⟩
    rintro σ7 H7 ⟨ol', zs, rfl, s7, h7, lz, d7⟩
    have hz7 := hz.mono s7
    have tb7 : Tabs [(pO, qO)] H7 := tabs.ext s7
    refine ⟨_, rfl, ol', rfl, ⟨_, SqL.of h7⟩, for_list (xs := zs.map V.ref) (fun i σ' H' => ∃ x3, σ' = [some (.ref l), some (.ref z), some (.ref ol'), x3] ∧ Same (hideT H7) (hideT H') ∧ Tabs [(pO, qO)] H') ⟨none, rfl, Same.refl _, tb7⟩ (fun i σ' H' _ ⟨_, _, s, _⟩ => SqL.of (hideT_same _ _ (s _ _ (hideT_of h7 fun _ z => nomatch z)))) ?_ ?_⟩
    · rintro i x0 σ' H8 hx ⟨x3, rfl, s8, tb8⟩
      obtain ⟨zo, hzo, rfl⟩ := get_ref hx
      have dT : Odd2 C.kind C.zone (hideT H7) z zo := odd_hideT (d7 zo (mem_get hzo))
      have dAt : ∀ {H' : Hp}, Same (hideT H7) (hideT H') → Odd2 C.kind C.zone H' z zo := fun s => (dT.mono s).mono hideT_same
      -- the tuple that is heard
      have dp : ∀ {H' : Hp} {a : Addr}, H' a = some (.tup [.str "scale", .str "None"]) → Dp K H' (.ref a) (.tuple [.str "scale", .str "None"]) := fun h => .tup (SqT.of h) (.cons (.str _) (.cons (.str _) .nil))
      have sh : SeqAt.shaped (.tuple [.str "scale", .str "None"]) = true := by decide +kernel
      have ev : PyData.eqv (.tuple [.str "scale", .str "None"]) (.tuple [.str "scale", .str "None"]) = true := by decide +kernel
      refine ⟨fun σ' H' => σ' = [some (.ref l), some (.ref z), some (.ref ol'), some (.ref zo)] ∧ Same (hideT H7) (hideT H') ∧ Tabs [(pO, qO)] H', ?_, ?_⟩
      · refine u_if (u_or (u_B ?_))
        refine ⟨tb8, fun H9 x9 tb9 => ?_⟩
        have s9 := Same.trans s8 (hideT_ext x9)
        refine ⟨_, rfl, _, rfl, odd_and (dAt s9) fun dd H10 s10 hd10 => ⟨rfl, dd, rfl, hd10, fun p H11 s11 hp11 => ⟨two_ok, fun p2 hp2 => ?_⟩⟩⟩
        have s12 := same_new (o := .tup [.str "scale", .str "None"]) hp2
        have sA := s10.trans (s11.trans s12)
        have sB := Same.trans s9 (hideT_mono sA)
        refine ⟨_, _, dp (s12 _ _ hp11), dp upd_same, sh, sh, _, rfl, iff0 (by rw [ev]; rfl) (u_B ⟨_, rfl, _, rfl, odd_eq Y O (dAt sB) fun H13 s13 => ⟨_, rfl, iff0 rfl ⟨rfl, Same.trans sB (hideT_mono s13), tb9.ext (sA.trans s13)⟩⟩⟩)⟩
      rintro σ9 H9 ⟨rfl, s9, tb9⟩
      refine ⟨fun σ' H' => σ' = [some (.ref l), some (.ref z), some (.ref ol'), some (.ref zo)] ∧ Same (hideT H7) (hideT H') ∧ Tabs [(pO, qO)] H', ?_, ?_⟩
      · refine u_if ⟨tb9, fun H10 x10 tb10 => ?_⟩
        have s10 := Same.trans s9 (hideT_ext x10)
        refine ⟨_, rfl, _, rfl, odd_le Y O (dAt s10) fun dd H11 s11 hd11 => ⟨rfl, dd, rfl, hd11, fun p H12 s12 hp12 => ⟨two_ok, fun p2 hp2 => ?_⟩⟩⟩
        have s13 := same_new (o := .tup [.str "scale", .str "None"]) hp2
        have sA := s11.trans (s12.trans s13)
        exact ⟨_, _, dp (s13 _ _ hp12), dp upd_same, sh, sh, _, rfl, iff0 (by rw [ev]; rfl) ⟨rfl, Same.trans s10 (hideT_mono sA), tb10.ext sA⟩⟩
      rintro σ10 H10 ⟨rfl, s10, tb10⟩
      refine u_if ⟨tb10, fun H11 x11 tb11 => ?_⟩
      have s11 := Same.trans s10 (hideT_ext x11)
      refine ⟨_, rfl, _, rfl, z, zo, rfl, dAt s11, fun dd H12 s12 hd12 => ⟨rfl, dd, rfl, hd12, fun p H13 s13 hp13 => ⟨two_ok, fun p2 hp2 => ?_⟩⟩⟩
      have s14 := same_new (o := .tup [.str "scale", .str "None"]) hp2
      have sA := s12.trans (s13.trans s14)
      exact ⟨_, _, dp (s14 _ _ hp13), dp upd_same, sh, sh, _, rfl, iff0 (by rw [ev]; rfl) ⟨_, rfl, Same.trans s11 (hideT_mono sA), tb11.ext sA⟩⟩
    · rintro σ' H8 ⟨x3, rfl, s8, tb8⟩
      have fin := q H8 (Same.trans (hideT_mono s7) s8) tb8
      have hz8 : Zo C.kind C.zone (a0 :: ar) (k0 :: kr) H8 z told T := ⟨((zone_hideT hz7.1).mono s8).mono hideT_same, hz7.2⟩
      obtain ⟨dx, kt, st, nt, tt, tv, bas, a1, a2, a3, a4, _⟩ := id hz8.1
      refine ⟨_, rfl, z, dx, _, _, rfl, a1, .base .non, O.nfN, z, _, _, _, _, _, rfl, hz8.1, hz8.2, .inr ⟨.inl rfl, _, rfl, _, rfl, ift rfl ?_⟩⟩
      refine ⟨_, rfl, z, dx, _, _, rfl, a1, .base (.str _), O.nfS, z, _, _, _, _, _, rfl, hz8.1, hz8.2, .inr ⟨.inr (.inl ⟨_, rfl⟩), _, rfl, _, rfl, ift rfl ?_⟩⟩
      refine ⟨_, rfl, _, rfl, z, _, dx, _, _, rfl, a1, Z.cl, Z.nScales, rfl, z, dx, _, _, rfl, a1, .base (.tup a4), O.nfT, z, _, _, _, _, _, rfl, hz8.1, hz8.2, .inr ⟨.inr (.inr ⟨st, _, rfl, a4⟩), _, rfl, fin⟩⟩
end
end KD
set_option Elab.async false
set_option linter.all false
set_option maxRecDepth 100000
set_option maxHeartbeats 4000000
namespace KD
open PySem PySem.Spec PyProof.Rows L2 KT KR LamX
abbrev Ln := Addr × List Addr × List Bd
theorem tabs_hide {T : List (Addr × Str)} {H : Hp} {p l : Addr} {n : Nat} (hp : PenAt H p l n) (t : Tabs T H) : Tabs T (hide p H) := fun x hx => by
  obtain ⟨ps, h1, h2, h3⟩ := t x hx
  obtain ⟨cs, b, g, e1, _⟩ := hp
  refine ⟨ps, at_hide h1 (fun e => by rw [e, e1] at h1; cases h1), h2, fun pos cv hc => ?_⟩
  obtain ⟨c, ec, hcc⟩ := h3 pos cv hc
  exact ⟨c, ec, at_hide hcc (fun e => by rw [e, e1] at hcc; cases hcc)⟩
theorem pen_hideT {H H' : Hp} {p l : Addr} {n : Nat} (hp : PenAt H p l n) (s : Same (hideT H) (hideT H')) : PenAt H' p l n := by
  obtain ⟨cs, b, g, e1, e2, e3, e4⟩ := hp
  exact ⟨cs, b, g, hideT_same _ _ (s _ _ (hideT_of e1 (by intro _ z; cases z))), e2, hideT_same _ _ (s _ _ (hideT_of e3 (by intro _ z; cases z))), e4⟩
theorem bds_hide {H : Hp} {D : Addr} {xs : List V} {as : List Addr} {es : List Bd} (hD : H D = some (.lst xs)) (h : BdsAt H as es) : BdsAt (hide D H) as es := Paired.mono (fun a e q => at_hide q fun z => by
  have q : H a = _ := q
  rw [z, hD] at q
  cases q) h
theorem bl_hide {H : Hp} {D r : Addr} {xs : List V} {as : List Addr} {es : List Bd} (hD : H D = some (.lst xs)) (ne : r ≠ D) (h : BlAt H r as es) : BlAt (hide D H) r as es := ⟨at_hide h.1 ne, bds_hide hD h.2⟩
/-- a line of bounds -/
def Lok (ks : List Kn) (m : Nat) (H : Hp) (r : Ln) : Prop := BlAt H r.1 r.2.1 r.2.2 ∧ KM.In (nms ks) r.2.2 ∧ (∀ e ∈ r.2.2, -50 ≤ e.2.2 ∧ e.2.2 ≤ 50) ∧ r.2.2.length ≤ m
theorem Lok.mono {ks : List Kn} {m : Nat} {H H' : Hp} {r : Ln} (s : Same H H') (h : Lok ks m H r) : Lok ks m H' r := ⟨h.1.mono s, h.2⟩
theorem Lok.more {ks : List Kn} {m m' : Nat} {H : Hp} {r : Ln} (l : m ≤ m') (h : Lok ks m H r) : Lok ks m' H r := ⟨h.1, h.2.1, h.2.2.1, Nat.le_trans h.2.2.2 l⟩
theorem cut_to2 (xs : List V) {d : Int} (h : 0 ≤ d) : cutV xs none (some d) = xs.take d.toNat := by
  obtain ⟨n, rfl⟩ : ∃ n : Nat, d = n := ⟨d.toNat, by omega⟩
  unfold cutV
  rw [HT.sIx_none, HT.sIx_nat, List.drop_zero, Nat.sub_zero]
  exact List.take_eq_take_iff.mpr (by simp)
theorem bds_take {H : Hp} : ∀ {as : List Addr} {es : List Bd} (n : Nat), BdsAt H as es → BdsAt H (as.take n) (es.take n)
  | _, _, 0, _ => by rw [List.take_zero, List.take_zero]; exact .nil
  | _, _, n + 1, .nil => .nil
  | _, _, n + 1, .cons h t => .cons h (bds_take n t)
theorem tri {α : Type} {l : List α} (h : l.length = 3) : ∃ a b c, l = [a, b, c] := by
  match l, h with
  | [a, b, c], _ => exact ⟨a, b, c, rfl⟩
theorem tab_hide {H : Hp} {D : Addr} {xs : List V} {v : V} {N : List Str} {T : Option Tb} (hD : H D = some (.lst xs)) (h : TabAt H v N T) : TabAt (hide D H) v N T := by
  cases T with
  | none => exact h
  | some T =>
    obtain ⟨d, kvs, e, hd, r⟩ := h
    exact ⟨d, kvs, e, at_hide hd (fun z => by rw [z, hD] at hd; cases hd), r⟩
theorem zone_hide {cK cZ : Addr} {H : Hp} {D z : Addr} {xs : List V} {kas : List Addr} {ks : List Kn} {told : List Bd} {T : Option Tb} (hD : H D = some (.lst xs)) (h : ZoneAt cK cZ H z kas ks told T) : ZoneAt cK cZ (hide D H) z kas ks told T := by
  obtain ⟨dx, kt, st, nt, tt, tv, bas, h1, h2, h3, h4, h5, h6, h7, h8⟩ := h
  have k : ∀ {b : Addr} {o : HO}, H b = some o → (∀ ys, o ≠ .lst ys) → hide D H b = some o := fun e n => at_hide e fun z => by
    rw [z, hD] at e
    exact n _ (Option.some.inj e).symm
  exact ⟨dx, kt, st, nt, tt, tv, bas, k h1 (by intro _ z; cases z), k h2 (by intro _ z; cases z), Paired.mono (fun _ _ ⟨d, e⟩ => ⟨d, k e (by intro _ z; cases z)⟩) h3, k h4 (by intro _ z; cases z), k h5 (by intro _ z; cases z), k h6 (by intro _ z; cases z), Paired.mono (fun _ _ e => k e (by intro _ z; cases z)) h7, tab_hide hD h8⟩
def pick3 {α : Type} (a b c : α) : Nat → α
  | 0 => a
  | 1 => b
  | _ => c
theorem atk {α : Type} {a b c : α} {j : Nat} (h : j < 3) : atI [a, b, c] ((0 : Int) + (j : Nat)) = some (pick3 a b c j) := by
  have e : j = 0 ∨ j = 1 ∨ j = 2 := by omega
  rcases e with rfl | rfl | rfl <;> rfl
theorem atk1 {α : Type} {a b c : α} {j : Nat} (h : j < 3) : atI [a, b, c] ((0 : Int) + (j : Nat) - 1) = some (pick3 a b c ((j + 2) % 3)) := by
  have e : j = 0 ∨ j = 1 ∨ j = 2 := by omega
  rcases e with rfl | rfl | rfl <;> rfl
theorem ref3 {a b c : Addr} : ∀ j : Nat, pick3 (V.ref a) (V.ref b) (V.ref c) j = V.ref (pick3 a b c j)
  | 0 => rfl
  | 1 => rfl
  | _ + 2 => rfl
section
variable {P : Program} {w : World} {K : PySem.W.Frag} {mg : Str → Option Value} {base : Heap} {f fI cO pO : Addr} {fd : FuncData} {C : Kd} {cN : Addr}
def spLaw (K : PySem.W.Frag) (pO : Addr) : Sp := fun vs H Q _ => ∃ l ns, vs = [.ref l] ∧ SqL K H l (List.map V.int ns) ∧ Tabs [(pO, qO)] H ∧ ∀ H', Q (.bl true) H'
theorem ok_law (B : Blt mg) (G_L_pen : Fd P w K mg base CX0 1 "_law_pen" (spPen K)) (G_L_draw : Fd P w K mg base CX0 1 "_law_draw" spDraw) (G_L_pick : Fd P w K mg base CX0 2 "_law_pick" spPick) (G_L_kinds : Fd P w K mg base CX0 6 "_law_kinds" (spLKinds C.kind)) (G_L_scales : Fd P w K mg base CX0 1 "_law_scales" (spLScales C.kind))
    (G_L_own : Fd P w K mg base CX0 2 "_law_own" (spLOwn C.kind)) (G_L_bounds : Fd P w K mg base CX0 3 "_law_bounds" (spLBounds C.kind)) (G_L_zone : Fd P w K mg base CX0 7 "_law_zone" (spLZone C.kind C.zone)) (G_L_ways : Fd P w K mg base CX0 1 "_law_ways" spWays) (G_L_joined_right : Fd P w K mg base CX0 9 "_law_joined_right" (spJoinedR C.kind C.zone))
    (G_L_points_right : Fd P w K mg base CX0 8 "_law_points_right" (spPoints C.kind C.zone)) (G_L_compared_right : FdG P w K mg base CX0 9 "_law_compared_right" (spCmp C.kind C.zone)) (G_L_sides_right : Fd P w K mg base CX0 8 "_law_sides_right" (spSidesR C.kind C.zone)) (G_L_others_refused : Fd P w K mg base CX0 11 "_law_others_refused" (spOthers C.kind C.zone pO))
    (F : FnDf K "law" "law" s_law f fd) : FnG P w K mg base CX0 12 f fd p_law (spLaw K pO) := by
  refine okG F sc_law (fun vs H Q E h => ?_) (fun cdv A outer s H vs Q E hg hr h => ?_)
  · obtain ⟨l, ns, rfl, _⟩ := h; rfl
  · obtain ⟨sc0, ns, rfl, hsc, tabs, q⟩ := h
    have hu := hu_of hr
    have n := sc_law.nd
    refine ⟨_, PSs.nox (pss_cons (ps_set (i := 1) n rfl (.inr rfl) (pe_d G_L_pen (hr.mono (by decide)) pass0 (pa_cons (pv 0) pa_nil)))
      (pss_cons (ps_for PassesOwn.never rfl (pi_range1 rfl B.range (pa_cons pe_int pa_nil)) (pg_name (i := 2) n rfl (.inl rfl))
        (pss_cons (ps_set (i := 3) n rfl (.inr rfl) (pe_d G_L_kinds (hr.mono (by decide)) pass0 (pa_cons (pv 1) (pa_cons (pe_op op_add pe_int (pe_d G_L_draw (hr.mono (by decide)) pass0 (pa_cons (pv 1) (pa_cons pe_int pa_nil)))) pa_nil))))
          (pss_cons (ps_asg (pe_tup (pa_cons (pe_op op_cat (pe_lst (pa_cons pe_str pa_nil)) (pe_d G_L_scales (hr.mono (by decide)) pass0 (pa_cons (pv 3) pa_nil))) (pa_cons (pe_d G_L_own (hr.mono (by decide)) pass0 (pa_cons (pv 3) pa_nil)) pa_nil))) (pg_tup rfl (pgs_cons (pg_name (i := 4) n rfl (.inr rfl)) (pgs_cons (pg_name (i := 5) n rfl (.inr rfl)) pgs_nil))))
          (pss_cons (ps_set (i := 6) n rfl (.inr rfl) (pe_d G_L_pick (hr.mono (by decide)) pass0 (pa_cons (pv 1) (pa_cons (pe_lst (pa_cons pe_int (pa_cons pe_int (pa_cons pe_int pa_nil)))) pa_nil))))
          (pss_cons (ps_setLc (own := [("_law_k", 10)]) (g := gName 10) (i := 7) rfl n rfl rfl (sw_true rfl rfl rfl (by decide +kernel)) (pi_range1 rfl B.range (pa_cons pe_int pa_nil)) (blkOk_by (N := n_law) (sc := defScope s_law) (by decide +kernel)) (fun _ _ _ _ _ => (pg_name (i := 10) n rfl (.inl rfl))) (fun _ _ _ _ _ => pts_nil) (fun _ _ _ _ _ => (pe_d G_L_bounds (hr.mono (by decide)) pass0 (pa_cons (pv 1) (pa_cons (pv 3) (pa_cons (pv 6) pa_nil))))))
          (pss_ct (ps_if (pt_cmpR op_eq (pe_d G_L_draw (hr.mono (by decide)) pass0 (pa_cons (pv 1) (pa_cons pe_int pa_nil))) pe_int (nomark _))
            (pss_one (ps_asg (pe_op op_cat (pe_revL (pe_ix ix_list (pv 7) pe_int (fun _ _ => rfl))) (pe_slice sl_list (pe_ix ix_list (pv 7) pe_int (fun _ _ => rfl)) po_none (po_some (pe_d G_L_draw (hr.mono (by decide)) pass0 (pa_cons (pv 1) (pa_cons pe_int pa_nil)))))) (pg_sub (pv 7) pe_int set_list)))
            pss_nil)
          (pss_cons (ps_setLc (own := [("_law_some", 11)]) (g := gName 11) (i := 8) rfl n rfl rfl (sw_true rfl rfl rfl (by decide +kernel)) (pi_list (pv 7)) (blkOk_by (N := n_law) (sc := defScope s_law) (by decide +kernel)) (fun _ _ _ _ _ => (pg_name (i := 11) n rfl (.inl rfl))) (fun _ _ _ _ _ => pts_nil) (fun _ _ _ _ _ => (pe_d G_L_zone (hr.mono (by decide)) pass0 (pa_cons (pv 3) (pa_cons (pv 11) pa_nil)))))
          (pss_cons (ps_setLc (own := [("_law_some", 11)]) (g := gName 11) (i := 9) rfl n rfl rfl (sw_true rfl rfl rfl (by decide +kernel)) (pi_list (pv 7)) (blkOk_by (N := n_law) (sc := defScope s_law) (by decide +kernel)) (fun _ _ _ _ _ => (pg_name (i := 11) n rfl (.inl rfl))) (fun _ _ _ _ _ => pts_nil) (fun _ _ _ _ _ => (pe_d G_L_ways (hr.mono (by decide)) pass0 (pa_cons (pv 4) (pa_cons (pe_op op_cat (pv 5) (pv 11)) pa_nil)))))
          (pss_ct (ps_if (PW.pt (pw_or (pt_not (pt_val (pe_d G_L_joined_right (hr.mono (by decide)) pass0 (pa_cons (pv 8) (pa_cons (pv 4) (pa_cons (pv 5) (pa_cons (pv 7) pa_nil))))))) (pw_or1 (pt_not (pt_val (pe_d G_L_points_right (hr.mono (by decide)) pass0 (pa_cons (pv 8) (pa_cons (pv 4) (pa_cons (pv 9) pa_nil)))))))))
            (pss_one (ps_ret pe_bl))
            pss_nil)
          (pss_cons (ps_for PassesOwn.never rfl (pi_range1 rfl B.range (pa_cons pe_int pa_nil)) (pg_name (i := 10) n rfl (.inl rfl))
            (pss_ct (ps_if (pt_not (pt_val (pe_dG G_L_compared_right hg (hr.mono (by decide)) pass0 (pa_cons (pe_ix ix_list (pv 8) (pv 10) (fun _ _ => rfl)) (pa_cons (pe_ix ix_list (pv 8) (pe_op op_sub (pv 10) pe_int) (fun _ _ => rfl)) (pa_cons (pe_ix ix_list (pv 9) (pv 10) (fun _ _ => rfl)) (pa_cons (pe_ix ix_list (pv 9) (pe_op op_sub (pv 10) pe_int) (fun _ _ => rfl)) pa_nil)))))))
                (pss_one (ps_ret pe_bl))
                pss_nil)
              (pss_one (ps_if (pt_not (pt_val (pe_d G_L_sides_right (hr.mono (by decide)) pass0 (pa_cons (pv 1) (pa_cons (pe_ix ix_list (pv 8) (pv 10) (fun _ _ => rfl)) (pa_cons (pv 4) (pa_cons (pe_ix ix_list (pv 9) (pv 10) (fun _ _ => rfl)) pa_nil)))))))
                (pss_one (ps_ret pe_bl))
                pss_nil))))
          (pss_one (ps_if (pt_not (pt_val (pe_d G_L_others_refused (hr.mono (by decide)) pass0 (pa_cons (pv 3) (pa_cons (pe_ix ix_list (pv 8) pe_int (fun _ _ => rfl)) pa_nil)))))
            (pss_one (ps_ret pe_bl))
            pss_nil))))))))))))
      (pss_one (ps_ret pe_bl)))), ?_⟩
    refine ⟨_, rfl, sc0, ns, rfl, hsc, fun p pl H1 s1 hp1 np => ?_⟩
    have tb1 := tabs.ext s1
    refine ⟨2, rfl, by decide, by decide, for_it (walk_range (lo := 0) (n := 2)) (fun i σ' H' => ∃ x2 x3 x4 x5 x6 x7 x8 x9 x10 x11, σ' = [some (.ref sc0), some (.ref p), x2, x3, x4, x5, x6, x7, x8, x9, x10, x11] ∧ PenAt H' p pl (1000 * i) ∧ Tabs [(pO, qO)] H')
      ⟨_, _, _, _, _, _, _, _, _, _, rfl, hp1, tb1⟩ (fun _ _ _ _ _ => trivial) ?_ (fun σ' H' ⟨_, _, _, _, _, _, _, _, _, _, _, _, _⟩ => q H')⟩
    rintro i x σ2 H2 H2' hi ⟨x2, x3, x4, x5, x6, x7, x8, x9, x10, x11, rfl, hp2, tb2⟩ ⟨rfl, rfl⟩
    have tbp2 := tabs_hide hp2 tb2
    -- the kinds
    refine ⟨_, rfl, _, rfl, p, pl, _, _, rfl, hp2, by omega, by decide, by decide, fun dk H3 dk0 dk1 hp3 b3 => ?_⟩
    obtain ⟨mk, rfl⟩ : ∃ mk : Nat, dk = (mk : Int) := ⟨dk.toNat, by omega⟩
    refine ⟨_, _, rfl, rfl, p, pl, _, 1 + mk, ?_, hp3, by omega, by omega, by omega, fun l kas ks H4 hp4 b4 hk4 ok t4 => ?_⟩
    · show [V.ref p, V.int (1 + (mk : Int))] = [V.ref p, V.int ((1 + mk : Nat) : Int)]
      rw [Int.natCast_add]; rfl
    have b24 : But p H2' H4 := Same.trans b3 b4
    have hk4' := hk4.mono hide_same
    have k3 := ok.le
    -- names, own
    refine ⟨one_ok, fun lb hlb => ?_⟩
    have s5 := same_new (o := .lst [.str "byte"]) hlb
    refine ⟨_, rfl, l, kas, ks, rfl, hk4'.mono s5, ok, fun sa H6 s6 hs nsa => ?_⟩
    refine ⟨lb, sa, _, _, rfl, rfl, s6 _ _ upd_same, hs, by rw [List.length_map, scl_len, sizeLine_eq]; simp only [List.length_cons, List.length_nil]; omega, fun nl hnl => ?_⟩
    have s7 := (s5.trans s6).trans (same_new (o := .lst ([.str "byte"] ++ (scl ks).map V.str)) hnl)
    have hN : L2.upd H6 nl (.lst ([.str "byte"] ++ (scl ks).map V.str)) nl = some (.lst ((nms ks).map V.str)) := upd_same
    have nn : nl ≠ p := hp4.ne ((s5.trans s6).free hnl)
    generalize L2.upd H6 nl (.lst ([.str "byte"] ++ (scl ks).map V.str)) = H7 at s7 hN ⊢
    refine ⟨_, rfl, l, kas, ks, rfl, hk4'.mono s7, ok, fun ol oas H8 s8 ho8 no8 => ?_⟩
    have no : ol ≠ p := (hp4.mono s7).ne no8
    refine ⟨two_ok, fun tp htp => ?_⟩
    have s9 := same_new (o := .tup [.ref nl, .ref ol]) htp
    refine ⟨tp, _, rfl, SqT.of upd_same, rfl, _, _, rfl, _, _, rfl, rfl, ?_⟩
    have s49 := s7.trans (s8.trans s9)
    have hN9 := (s8.trans s9) _ _ hN
    have ho9 := ho8.mono s9
    generalize L2.upd H8 tp (.tup [.ref nl, .ref ol]) = H9 at s49 hN9 ho9 ⊢
    clear s5 s6 s7 s8 s9 hN ho8
    have hp9 := hp4.mono s49
    have b29 : But p H2' H9 := Same.trans b24 (But.of s49)
    have hNp := at_hide hN9 nn
    obtain ⟨pcs, pb, pg, ep9, _⟩ := id hp9
    have hop : BlAt (hide p H9) ol oas (own ks) := ⟨at_hide ho9.1 no, bds_hide ep9 ho9.2⟩
    clear ep9
    -- most
    refine ⟨_, rfl, three_ok, fun la hla => ?_⟩
    have s10 := same_new (o := .lst [.int 2, .int 4, .int 40]) hla
    refine ⟨p, pl, la, _, _, rfl, hp9.mono s10, by omega, at_hide upd_same (hp9.ne hla), by decide, by decide, fun xm H11 hxm hp11 b11 => ?_⟩
    have b911 : But p H9 H11 := Same.trans (But.of s10) b11
    obtain ⟨most, rfl, m0, m1⟩ : ∃ m : Int, xm = .int m ∧ 0 ≤ m ∧ m ≤ 40 := by
      simp at hxm
      rcases hxm with rfl | rfl | rfl <;> exact ⟨_, rfl, by decide, by decide⟩
    clear s10 hla hxm b11
    -- the lines
    refine ⟨3, rfl, by decide, by decide, fun D hD => ?_⟩
    have neD := hp11.ne hD
    have nlD := hp11.nl hD
    refine lp_it (walk_range (lo := 0) (n := 3)) (fun i' H' => PenAt H' p pl (1000 * i + 20 + 70 * i') ∧ But p H11 H' ∧ ∃ rs : List Ln, rs.length = i' ∧ H' D = some (.lst (rs.map fun r => V.ref r.1)) ∧ ∀ r ∈ rs, Lok ks 12 (hide D (hide p H')) r)
      ⟨(hp11.mono (same_new hD)).more (by omega), But.of (same_new hD), [], rfl, upd_same, fun _ z => (nomatch z)⟩ (fun _ _ _ _ => trivial) ?_ ?_
    · rintro j x H12 H12' hj ⟨hp12, b12, rs, lrs, hD12, ok12⟩ ⟨rfl, rfl⟩
      refine ⟨rfl, u_yes (ift rfl ?_)⟩
      have hk12 : KlAt C.kind (hide p H12') l kas ks := ((hk4.mono (hide_mono s49)).mono b911).mono b12
      refine ⟨_, rfl, _, rfl, _, rfl, p, pl, _, l, kas, ks, most, rfl, hp12, by omega, hk12, ok, m0, m1, fun r bas bs H13 hp13 b13 bl13 nr in13 c13 l13 => ?_⟩
      have rD : r ≠ D := fun e => by rw [e, hD12] at nr; cases nr
      have hD13 := b13.get neD hD12
      refine ⟨_, hD13, by rw [List.length_map, lrs, sizeLine_eq]; omega, (hp13.upd neD nlD).more (by omega), But.mut (Same.trans b12 b13) neD hD, rs ++ [(r, bas, bs)], by rw [List.length_append, lrs]; rfl, by rw [upd_same, List.map_append]; rfl, fun r' hr' => ?_⟩
      rw [hide_upd_ne neD, hide_upd]
      rcases List.mem_append.mp hr' with z | z
      · exact (ok12 r' z).mono (hide_mono b13)
      · rw [List.mem_singleton.mp z]
        exact ⟨bl_hide (at_hide hD13 neD) rD bl13, in13, c13, l13⟩
    rintro H12 ⟨hp12, b12, rs, lrs, hD12, ok12⟩
    obtain ⟨r0, r1, r2, rfl⟩ : ∃ r0 r1 r2, rs = [r0, r1, r2] := by
      match rs, lrs with
      | [a, b, c], _ => exact ⟨a, b, c, rfl⟩
    have b212 : But p H2' H12 := Same.trans b29 (Same.trans b911 b12)
    -- another second line, perhaps
    refine ⟨fun σ' H' => ∃ r1' : Ln, σ' = [some (.ref sc0), some (.ref p), some (.int ((0 : Int) + (i : Nat))), some (.ref l), some (.ref nl), some (.ref ol), some (.int most), some (.ref D), x8, x9, x10, x11] ∧ PenAt H' p pl (1000 * i + 300) ∧ But p H11 H' ∧ hide p H' D = some (.lst [.ref r0.1, .ref r1'.1, .ref r2.1]) ∧
        Lok ks 30 (hide p H') r0 ∧ Lok ks 30 (hide p H') r1' ∧ Lok ks 30 (hide p H') r2, ?_, ?_⟩
    · have o0 := ((ok12 r0 (by simp)).mono hide_same).more (show 12 ≤ 30 by decide)
      have o1 := ((ok12 r1 (by simp)).mono hide_same).more (show 12 ≤ 30 by decide)
      have o2 := ((ok12 r2 (by simp)).mono hide_same).more (show 12 ≤ 30 by decide)
      refine u_if (u_B ⟨_, rfl, p, pl, _, _, rfl, hp12, by omega, by decide, by decide, fun d1 H13 _ _ hp13 b13 => ⟨rfl, _, rfl, ?_⟩⟩)
      refine if2 (fun _ => ?_) (fun _ => ⟨r1, rfl, hp13.more (by omega), Same.trans b12 b13, b13 _ _ (at_hide hD12 neD), o0.mono b13, o1.mono b13, o2.mono b13⟩)
      have k0 := (ok12 r0 (by simp)).mono (hide_mono b13)
      have k2 := (ok12 r2 (by simp)).mono (hide_mono b13)
      have hD13 := b13.get neD hD12
      have e0 : H13 r0.1 = some (.lst (r0.2.1.map V.ref)) := hide_same _ _ (hide_same _ _ k0.1.1)
      refine ⟨_, rfl, D, _, _, _, rfl, rfl, SqL.of hD13, rfl, r0.1, _, rfl, SqL.of e0, fun rv hrv => ?_⟩
      have s14 := same_new (o := .lst (r0.2.1.map V.ref).reverse) hrv
      have hrv' : L2.upd H13 rv (.lst (r0.2.1.map V.ref).reverse) rv = some (.lst (r0.2.1.map V.ref).reverse) := upd_same
      have nrvp := hp13.ne hrv
      have hp14 := hp13.mono s14
      generalize L2.upd H13 rv (.lst (r0.2.1.map V.ref).reverse) = H14 at s14 hrv' hp14 ⊢
      refine ⟨_, rfl, D, _, _, _, rfl, rfl, SqL.of (s14 _ _ hD13), rfl, _, rfl, p, pl, _, _, rfl, hp14, by omega, by decide, by decide, fun d2 H15 d20 d21 hp15 b15 => ?_⟩
      have b135 : But p H13 H15 := Same.trans (But.of s14) b15
      have e15 : H15 r0.1 = some (.lst (r0.2.1.map V.ref)) := hide_same _ _ (hide_same _ _ ((k0.mono (hide_mono b135)).1.1))
      refine ⟨_, rfl, r0.1, _, rfl, SqL.of e15, fun sl hsl => ?_⟩
      rw [cut_to2 _ d20]
      have s16 := same_new (o := .lst ((r0.2.1.map V.ref).take d2.toNat)) hsl
      have lb0 := k0.1.2.len
      have l12 := k0.2.2.2
      refine ⟨rv, sl, _, _, rfl, rfl, s16 _ _ (b15.get nrvp hrv'), upd_same, by rw [List.length_reverse, List.length_take, List.length_map, sizeLine_eq]; omega, fun np hnp => ?_⟩
      have s17 := same_new (o := .lst ((r0.2.1.map V.ref).reverse ++ (r0.2.1.map V.ref).take d2.toNat)) hnp
      have s157 := s16.trans s17
      have hp17 := hp15.mono s157
      have nnp : np ≠ p := (hp15.mono s16).ne hnp
      have hnp7 : L2.upd (L2.upd H15 sl (.lst ((r0.2.1.map V.ref).take d2.toNat))) np (.lst ((r0.2.1.map V.ref).reverse ++ (r0.2.1.map V.ref).take d2.toNat)) np = some (.lst ((r0.2.1.reverse ++ r0.2.1.take d2.toNat).map V.ref)) := by
        rw [upd_same, List.map_append, List.map_reverse, List.map_take]
      generalize L2.upd (L2.upd H15 sl (.lst ((r0.2.1.map V.ref).take d2.toNat))) np (.lst ((r0.2.1.map V.ref).reverse ++ (r0.2.1.map V.ref).take d2.toNat)) = H17 at s157 hp17 hnp7 ⊢
      have b137 : But p H13 H17 := Same.trans b135 (But.of s157)
      have hD17 := b137.get neD hD13
      have nnD : np ≠ D := fun e => by
        have : H15 D = _ := b135.get neD hD13
        have h2 := s16 _ _ this
        rw [← e, hnp] at h2; cases h2
      have k07 := k0.mono (hide_mono b137)
      have k27 := k2.mono (hide_mono b137)
      refine ⟨_, rfl, D, _, 1, 1, rfl, rfl, hD17, rfl, (np, r0.2.1.reverse ++ r0.2.1.take d2.toNat, r0.2.2.reverse ++ r0.2.2.take d2.toNat), rfl, (hp17.upd neD nlD).more (by omega), But.mut (Same.trans b12 (Same.trans b13 b137)) neD hD, at_hide upd_same neD, ?_, ?_, ?_⟩
      · have := (k07.mono hide_same).more (show 12 ≤ 30 by decide)
        have e : hide D (hide p (L2.upd H17 D (HO.lst (List.set ([r0, r1, r2].map fun r => V.ref r.1) 1 (V.ref np))))) = hide D (hide p H17) := by rw [hide_upd_ne neD, hide_upd]
        exact ((e ▸ k07).mono hide_same).more (by decide)
      · have e : hide D (hide p (L2.upd H17 D (HO.lst (List.set ([r0, r1, r2].map fun r => V.ref r.1) 1 (V.ref np))))) = hide D (hide p H17) := by rw [hide_upd_ne neD, hide_upd]
        have nl : Lok ks 30 (hide D (hide p H17)) (np, r0.2.1.reverse ++ r0.2.1.take d2.toNat, r0.2.2.reverse ++ r0.2.2.take d2.toNat) := by
          refine ⟨⟨at_hide (at_hide hnp7 nnp) nnD, BdsAt.app (Paired.rev k07.1.2) (bds_take _ k07.1.2)⟩, ?_, ?_, ?_⟩
          · intro e he
            rcases List.mem_append.mp he with z | z
            · exact k07.2.1 e (List.mem_reverse.mp z)
            · exact k07.2.1 e (List.mem_of_mem_take z)
          · intro e he
            rcases List.mem_append.mp he with z | z
            · exact k07.2.2.1 e (List.mem_reverse.mp z)
            · exact k07.2.2.1 e (List.mem_of_mem_take z)
          · show (r0.2.2.reverse ++ r0.2.2.take d2.toNat).length ≤ 30
            rw [List.length_append, List.length_reverse, List.length_take]; omega
        exact (e ▸ nl).mono hide_same
      · have e : hide D (hide p (L2.upd H17 D (HO.lst (List.set ([r0, r1, r2].map fun r => V.ref r.1) 1 (V.ref np))))) = hide D (hide p H17) := by rw [hide_upd_ne neD, hide_upd]
        exact ((e ▸ k27).mono hide_same).more (by decide)
    rintro σ13 H13 ⟨r1', rfl, hp13, b13, hD13, o0, o1, o2⟩
    have hN13 : hide p H13 nl = some (.lst ((nms ks).map V.str)) := b13 _ _ (b911 _ _ hNp)
    have ho13 : BlAt (hide p H13) ol oas (own ks) := (hop.mono b911).mono b13
    have hk13 : KlAt C.kind (hide p H13) l kas ks := ((hk4.mono (hide_mono s49)).mono b911).mono b13
    have b213 : But p H2' H13 := Same.trans b29 (Same.trans b911 b13)
    have tb13 : Tabs [(pO, qO)] H13 := (tbp2.ext b213).ext hide_same
    obtain ⟨rs, hrs⟩ : ∃ rs : List Ln, rs = [r0, r1', r2] := ⟨_, rfl⟩
    have lrs3 : rs.length = 3 := by rw [hrs]; rfl
    have hDr : H13 D = some (.lst (rs.map fun r => V.ref r.1)) := by rw [hrs]; exact hide_same _ _ hD13
    have okr : ∀ r ∈ rs, Lok ks 30 (hide p H13) r := fun r hr => by
      rw [hrs] at hr
      simp only [List.mem_cons, List.not_mem_nil, or_false] at hr
      rcases hr with rfl | rfl | rfl
      · exact o0
      · exact o1
      · exact o2
    clear o0 o1 o2
    -- the zones
    refine ⟨_, rfl, D, rfl, ⟨_, SqL.of hDr⟩, fun DZ hDZ => ?_⟩
    refine lp_it (walk_list (xs := rs.map fun r => V.ref r.1)) (fun i' H' => Same H13 H' ∧ ∃ zs : List (Addr × Option Tb), zs.length = i' ∧ H' DZ = some (.lst (zs.map fun x => V.ref x.1)) ∧ ∀ j, j < i' → ∃ zt r, zs[j]? = some zt ∧ rs[j]? = some r ∧ Zo C.kind C.zone kas ks (hide DZ H') zt.1 (own ks ++ r.2.2) zt.2)
      ⟨same_new hDZ, [], rfl, upd_same, fun j hj => by omega⟩ (fun i' H' _ h => SqL.of (h.1 _ _ hDr)) ?_ ?_
    · rintro j x H14 H14' hj ⟨s14, zs, lz, h14, ok14⟩ ⟨rfl, hx⟩
      rw [List.getElem?_map] at hx
      cases er : rs[j]? with
      | none => rw [er] at hx; cases hx
      | some r =>
        rw [er] at hx
        obtain rfl := Option.some.inj hx
        have hr := okr r (mem_get er)
        have j3 : j < 3 := by rw [List.length_map, lrs3] at hj; exact hj
        refine ⟨rfl, u_yes (ift rfl ?_)⟩
        refine ⟨_, rfl, _, rfl, l, kas, ks, r.1, r.2.1, r.2.2, rfl, (hk13.mono hide_same).mono s14, ok, (hr.1.mono hide_same).mono s14, hr.2.1, hr.2.2.1, hr.2.2.2, fun z T H15 s15 hz15 zk => ?_⟩
        have h15 := s15 _ _ h14
        have hzo : Zo C.kind C.zone kas ks (hide DZ H15) z (own ks ++ r.2.2) T := ⟨zone_hide h15 hz15, zk⟩
        refine ⟨_, h15, by rw [List.length_map, lz, sizeLine_eq]; omega, same_mut (s14.trans s15) hDZ, zs ++ [(z, T)], by rw [List.length_append, lz]; rfl, by rw [upd_same, List.map_append]; rfl, fun j' hj' => ?_⟩
        rw [hide_upd]
        by_cases e : j' < j
        · obtain ⟨zt, r', a1, a2, a3⟩ := ok14 j' e
          exact ⟨zt, r', by rw [List.getElem?_append_left (by omega)]; exact a1, a2, a3.mono (hide_mono s15)⟩
        · have e : j' = j := by omega
          subst e
          exact ⟨(z, T), r, by rw [List.getElem?_append_right (by omega), lz]; simp, er, hzo⟩
    rintro H14 ⟨s14, zs, lz, h14, ok14⟩
    rw [List.length_map, lrs3] at lz ok14
    -- the ways
    have okz : ∀ j, j < 3 → ∃ zt r, zs[j]? = some zt ∧ rs[j]? = some r ∧ Zo C.kind C.zone kas ks H14 zt.1 (own ks ++ r.2.2) zt.2 := fun j hj => let ⟨zt, r, a, b, c⟩ := ok14 j hj; ⟨zt, r, a, b, c.mono hide_same⟩
    clear ok14
    refine ⟨_, rfl, D, rfl, ⟨_, SqL.of (s14 _ _ hDr)⟩, fun DW hDW => ?_⟩
    refine lp_it (walk_list (xs := rs.map fun r => V.ref r.1)) (fun i' H' => Same H14 H' ∧ ∃ vs : List V, vs.length = i' ∧ H' DW = some (.lst vs) ∧ ∀ j, j < i' → ∃ v zt, vs[j]? = some v ∧ zs[j]? = some zt ∧ TabAt (hide DW H') v (nms ks) zt.2)
      ⟨same_new hDW, [], rfl, upd_same, fun j hj => by omega⟩ (fun i' H' _ h => SqL.of (h.1 _ _ (s14 _ _ hDr))) ?_ ?_
    · rintro j x H15 H15' hj ⟨s15, vs, lv, h15, ok15⟩ ⟨rfl, hx⟩
      rw [List.getElem?_map] at hx
      cases er : rs[j]? with
      | none => rw [er] at hx; cases hx
      | some r =>
        rw [er] at hx
        obtain rfl := Option.some.inj hx
        have hr := okr r (mem_get er)
        have j3 : j < 3 := by rw [List.length_map, lrs3] at hj; exact hj
        obtain ⟨zt, r', a1, a2, a3⟩ := okz j j3
        rw [er] at a2
        obtain rfl := Option.some.inj a2
        have s135 := s14.trans s15
        refine ⟨rfl, u_yes (ift rfl ?_)⟩
        have lo : (own ks).length ≤ 9 := by rw [own_len]; omega
        have l30 := hr.2.2.2
        refine ⟨_, rfl, _, rfl, _, rfl, cat_at ((ho13.mono hide_same).mono s135) ((hr.1.mono hide_same).mono s135) (by omega) fun pq H16 s16 q16 => ?_⟩
        have l7 : (nms ks).length ≤ 7 := by rw [nms_len]; omega
        refine ⟨nl, nms ks, pq, _, _, rfl, (s135.trans s16) _ _ (hide_same _ _ hN13), l7, q16, in_app (own_in ks) hr.2.1, fun v H17 s17 hv => ?_⟩
        rw [ways_tab a3.2 (in_app (own_in ks) hr.2.1) (fun _ => Iff.rfl)] at hv
        have s157 := s16.trans s17
        have h17 := s157 _ _ h15
        refine ⟨_, h17, by rw [lv, sizeLine_eq]; omega, same_mut (s15.trans s157) hDW, vs ++ [v], by rw [List.length_append, lv]; rfl, upd_same, fun j' hj' => ?_⟩
        rw [hide_upd]
        by_cases e : j' < j
        · obtain ⟨v', zt', c1, c2, c3⟩ := ok15 j' e
          exact ⟨v', zt', by rw [List.getElem?_append_left (by omega)]; exact c1, c2, c3.mono (hide_mono s157)⟩
        · have e : j' = j := by omega
          subst e
          exact ⟨v, zt, by rw [List.getElem?_append_right (by omega), lv]; simp, a1, tab_hide h17 hv⟩
    rintro H15 ⟨s15, vs, lv, h15, ok15⟩
    rw [List.length_map, lrs3] at lv ok15
    have okv : ∀ j, j < 3 → ∃ v zt, vs[j]? = some v ∧ zs[j]? = some zt ∧ TabAt H15 v (nms ks) zt.2 := fun j hj => let ⟨v, zt, a, b, c⟩ := ok15 j hj; ⟨v, zt, a, b, c.mono hide_same⟩
    clear ok15
    obtain ⟨⟨z0, T0'⟩, ⟨z1, T1'⟩, ⟨z2, T2'⟩, rfl⟩ := tri lz
    obtain ⟨v0, v1, v2, rfl⟩ := tri lv
    subst hrs
    have s135 := s14.trans s15
    have okz' : ∀ j, j < 3 → Zo C.kind C.zone kas ks H15 (pick3 z0 z1 z2 j) (own ks ++ pick3 r0.2.2 r1'.2.2 r2.2.2 j) (pick3 T0' T1' T2' j) := fun j hj => by
      obtain ⟨zt, r, a, b, c⟩ := okz j hj
      have : j = 0 ∨ j = 1 ∨ j = 2 := by omega
      rcases this with rfl | rfl | rfl <;> (cases a; cases b; exact c.mono s15)
    have okv' : ∀ j, j < 3 → TabAt H15 (pick3 v0 v1 v2 j) (nms ks) (pick3 T0' T1' T2' j) := fun j hj => by
      obtain ⟨v, zt, a, b, c⟩ := okv j hj
      have : j = 0 ∨ j = 1 ∨ j = 2 := by omega
      rcases this with rfl | rfl | rfl <;> (cases a; cases b; exact c)
    have okl : ∀ j, j < 3 → Lok ks 30 H15 (pick3 r0 r1' r2 j) := fun j hj => by
      have : j = 0 ∨ j = 1 ∨ j = 2 := by omega
      rcases this with rfl | rfl | rfl
      · exact ((okr r0 (by simp)).mono hide_same).mono s135
      · exact ((okr r1' (by simp)).mono hide_same).mono s135
      · exact ((okr r2 (by simp)).mono hide_same).mono s135
    have trio : Trio C.kind C.zone H15 kas ks nl ol DZ D oas (pick3 z0 z1 z2) (pick3 r0.1 r1'.1 r2.1) (pick3 r0.2.2 r1'.2.2 r2.2.2) (pick3 T0' T1' T2') := by
      refine ⟨ok, s135 _ _ (hide_same _ _ hN13), (ho13.mono hide_same).mono s135, s15 _ _ h14, s135 _ _ hDr, okz', fun j hj => ?_, fun j hj => ?_, fun j hj => ?_⟩
      · have := okl j hj
        have e : j = 0 ∨ j = 1 ∨ j = 2 := by omega
        rcases e with rfl | rfl | rfl <;> exact ⟨_, this.1⟩
      · have := okl j hj
        have e : j = 0 ∨ j = 1 ∨ j = 2 := by omega
        rcases e with rfl | rfl | rfl <;> exact this.2.1
      · have := okl j hj
        have e : j = 0 ∨ j = 1 ∨ j = 2 := by omega
        rcases e with rfl | rfl | rfl <;> exact this.2.2.2
    have lo : (own ks).length ≤ 9 := by rw [own_len]; omega
    have l40 : ∀ j, j < 3 → (own ks ++ pick3 r0.2.2 r1'.2.2 r2.2.2 j).length ≤ 40 := fun j hj => by
      have := trio.len j hj
      rw [List.length_append]; omega
    have hW : H15 DW = some (.lst [v0, v1, v2]) := h15
    refine ⟨fun σ' H' => σ' = [some (.ref sc0), some (.ref p), some (.int ((0 : Int) + (i : Nat))), some (.ref l), some (.ref nl), some (.ref ol), some (.int most), some (.ref D), some (.ref DZ), some (.ref DW), x10, x11] ∧ Same H15 H', ?_, ?_⟩
    · refine u_if (u_or (u_not (u_B ⟨_, rfl, _, rfl, _, rfl, _, rfl, kas, ks, nl, ol, DZ, D, oas, _, _, _, _, rfl, trio, fun H16 s16 => ⟨true, rfl, iff0 rfl (u_not (u_B ?_))⟩⟩)))
      have t16 := trio.mono s16
      exact ⟨_, rfl, _, rfl, _, rfl, kas, ks, nl, DZ, DW, pick3 z0 z1 z2, pick3 v0 v1 v2, fun j => own ks ++ pick3 r0.2.2 r1'.2.2 r2.2.2 j, pick3 T0' T1' T2', rfl, ok, t16.nm, t16.zs, s16 _ _ hW, fun j hj => ⟨t16.zo j hj, (okv' j hj).mono s16, l40 j hj⟩, fun H17 s17 => ⟨true, rfl, iff0 rfl ⟨rfl, s16.trans s17⟩⟩⟩
    rintro σ16 H16 ⟨rfl, s16⟩
    have s136 := s135.trans s16
    have hp16 := hp13.mono s136
    obtain ⟨pcs6, pb6, pg6, ep16, _⟩ := id hp16
    have nDZ : DZ ≠ p := hp13.ne hDZ
    have nDW : DW ≠ p := (hp13.mono s14).ne hDW
    have zo16 : ∀ j, j < 3 → Zo C.kind C.zone kas ks (hide p H16) (pick3 z0 z1 z2 j) (own ks ++ pick3 r0.2.2 r1'.2.2 r2.2.2 j) (pick3 T0' T1' T2' j) := fun j hj => ⟨zone_hide ep16 ((okz' j hj).1.mono s16), (okz' j hj).2⟩
    have tv16 : ∀ j, j < 3 → TabAt (hide p H16) (pick3 v0 v1 v2 j) (nms ks) (pick3 T0' T1' T2' j) := fun j hj => tab_hide ep16 ((okv' j hj).mono s16)
    have Z16 : hide p H16 DZ = some (.lst [.ref z0, .ref z1, .ref z2]) := at_hide (s16 _ _ (s15 _ _ h14)) nDZ
    have W16 : hide p H16 DW = some (.lst [v0, v1, v2]) := at_hide (s16 _ _ hW) nDW
    have N16 : hide p H16 nl = some (.lst ((nms ks).map V.str)) := hide_mono s136 _ _ hN13
    have K16 : KlAt C.kind (hide p H16) l kas ks := hk13.mono (hide_mono s136)
    have tb16 : Tabs [(pO, qO)] (hide p H16) := tabs_hide hp16 (tb13.ext s136)
    have hc16 : ∀ j, j < 3 → ∀ e ∈ own ks ++ pick3 r0.2.2 r1'.2.2 r2.2.2 j, -50 ≤ e.2.2 ∧ e.2.2 ≤ 50 := fun j hj e he => by
      rcases List.mem_append.mp he with z | z
      · have : e.2.2 = 0 := by
          rcases List.mem_append.mp z with y | y
          · obtain ⟨u, _, rfl⟩ := List.mem_map.mp y; rfl
          · obtain ⟨u, _, rfl⟩ := List.mem_map.mp y; rfl
        omega
      · have hh := okl j hj
        have e3 : j = 0 ∨ j = 1 ∨ j = 2 := by omega
        rcases e3 with rfl | rfl | rfl <;> exact hh.2.2.1 e z
    clear okz' okv' okz okv trio okl
    -- the comparisons
    refine ⟨3, rfl, by decide, by decide, for_it (walk_range (lo := 0) (n := 3)) (fun j σ' H' => ∃ y10, σ' = [some (.ref sc0), some (.ref p), some (.int ((0 : Int) + (i : Nat))), some (.ref l), some (.ref nl), some (.ref ol), some (.int most), some (.ref D), some (.ref DZ), some (.ref DW), y10, x11] ∧
        PenAt H' p pl (1000 * i + 300 + 3 * j) ∧ But p H16 H') ⟨_, rfl, hp16, Same.refl _⟩ (fun _ _ _ _ _ => trivial) ?_ ?_⟩
    · rintro j x σ17 H17 H17' hj ⟨y10, rfl, hp17, b17⟩ ⟨rfl, rfl⟩
      have jm : (j + 2) % 3 < 3 := Nat.mod_lt _ (by decide)
      have Z17 := hide_same _ _ (b17 _ _ Z16)
      have W17 := hide_same _ _ (b17 _ _ W16)
      refine ⟨fun σ' H' => σ' = [some (.ref sc0), some (.ref p), some (.int ((0 : Int) + (i : Nat))), some (.ref l), some (.ref nl), some (.ref ol), some (.int most), some (.ref D), some (.ref DZ), some (.ref DW), some (.int ((0 : Int) + (j : Nat))), x11] ∧ Same H17' H', ?_, ?_⟩
      · refine u_if (u_not (u_B ?_))
        refine ⟨_, rfl, _, rfl, DZ, _, _, _, rfl, rfl, SqL.of Z17, atk hj, ?_⟩
        refine ⟨_, rfl, _, rfl, _, _, rfl, rfl, DZ, _, _, _, rfl, rfl, SqL.of Z17, atk1 hj, ?_⟩
        refine ⟨_, rfl, _, rfl, DW, _, _, _, rfl, rfl, SqL.of W17, atk hj, ?_⟩
        refine ⟨_, rfl, _, rfl, _, _, rfl, rfl, DW, _, _, _, rfl, rfl, SqL.of W17, atk1 hj, ?_⟩
        refine ⟨kas, ks, pick3 z0 z1 z2 j, pick3 z0 z1 z2 ((j + 2) % 3), pick3 v0 v1 v2 j, pick3 v0 v1 v2 ((j + 2) % 3), _, _, _, _, ?_, ((zo16 j hj).mono b17).mono hide_same, ((zo16 _ jm).mono b17).mono hide_same, l40 j hj, l40 _ jm, ((tv16 j hj).mono b17).mono hide_same, ((tv16 _ jm).mono b17).mono hide_same, fun H18 s18 => ⟨true, rfl, iff0 rfl ⟨rfl, s18⟩⟩⟩
        rw [ref3, ref3]
      rintro σ18 H18 ⟨rfl, s18⟩
      have hp18 := hp17.mono s18
      have b18 : But p H16 H18 := Same.trans b17 (But.of s18)
      refine u_if (u_not (u_B ?_))
      refine ⟨_, rfl, _, rfl, _, rfl, DZ, _, _, _, rfl, rfl, SqL.of (s18 _ _ Z17), atk hj, ?_⟩
      refine ⟨_, rfl, _, rfl, _, rfl, DW, _, _, _, rfl, rfl, SqL.of (s18 _ _ W17), atk hj, ?_⟩
      refine ⟨p, pl, _, kas, ks, nl, pick3 z0 z1 z2 j, pick3 v0 v1 v2 j, _, _, ?_, hp18, by omega, b18 _ _ N16, (zo16 j hj).mono b18, (tv16 j hj).mono b18, l40 j hj, hc16 j hj, fun H19 hp19 b19 => ⟨true, rfl, iff0 rfl ⟨_, rfl, hp19.more (by omega), Same.trans b18 b19⟩⟩⟩
      rw [ref3]
    · rintro σ17 H17 ⟨y10, rfl, hp17, b17⟩
      dsimp only
      refine u_if (u_not (u_B ?_))
      refine ⟨_, rfl, _, rfl, DZ, _, _, _, rfl, rfl, SqL.of (hide_same _ _ (b17 _ _ Z16)), rfl, ?_⟩
      refine ⟨l, z0, kas, ks, _, _, rfl, (K16.mono b17).mono hide_same, ok, t4, ((zo16 0 (by decide)).mono b17).mono hide_same, l40 0 (by decide), (tb16.ext b17).ext hide_same, fun H18 s18 tb18 => ⟨true, rfl, iff0 rfl ⟨_, _, _, _, _, _, _, _, _, _, rfl, (pen_hideT hp17 s18).more (by omega), tb18⟩⟩⟩
end
end KD
set_option Elab.async false
set_option linter.all false
set_option maxRecDepth 100000
set_option maxHeartbeats 4000000
namespace KR
open PySem PySem.Spec PyProof.Rows L2 LamX
section
variable {P : Program} {w : World} {K : PySem.W.Frag} {mg mb : Str → Option Value} {k : Nat} {fa a c T : Addr} {fd : FuncData} {x : Str} {sp : Sp} {s1 : Shared} {vs : List Value} {ns : List Int}
/-- what the run from an abstract heap gives back of the real one -/
theorem end_from (KX : K.In s1.heap) (gN : s1.heap.Ns mainGlobals mg) (bN : s1.heap.Ns builtinsNs mb) (bB : ∀ y : Str, y ≠ "__name__" → mb y = bootBuiltins y) (nl : s1.heap.NoLimit) (g0 : s1.gens = #[])
    (hT : s1.heap.get? T = some { cls := .none, data := .fields #[] }) (nT : K.lookup T = none) (hC : PySem.W.CodeHd s1.heap c T)
    (hm : ∃ (bm : Addr) (ob : Obj), mg "__builtins__" = some (.ref bm) ∧ bm ≠ builtinsNs ∧ s1.heap.get? bm = some ob ∧ ob.cls = .type "module" ∧ ob.dict = some builtinsNs ∧ ob.data = .plain)
    (ha : s1.heap.get? a = some { cls := .type "list", data := .seq vs.toArray }) (hr : Room k callerA)
    (F : ∀ base : Heap, K.In base → base.Ns mainGlobals mg → TabB base mg c T → FnG P w K mg base CX0 k fa fd [x] sp) (hb : ∀ (s : Shared) (u : Value), BindsTo s fd ⟨[u], []⟩ [(x, u)])
    (hsp : ∀ H : Hp, H T = some (.tbl #[]) → SqL K H a (ns.map V.int) → sp [.ref a] H (fun v _ => v = .bl true) fun _ _ _ => False)
    (H : Hp) (hH : H T = some (.tbl #[])) (hO : ∀ b, H b = none ∨ b = T ∨ ∃ o xs, H b = some (.frz o (.lst xs))) (hS : SqL K H a (ns.map V.int)) (hok : HOk P w H s1.heap) (hA : ∀ b, H b ≠ none → b = a ∨ b = T) (hK : H a ≠ none → K.lookup a = none) :
    codeAny (model P w) callerA (.call (.ref fa) ⟨[.ref a], []⟩) (fun r s' => r = .ok (.ret (.bool true)) ∧ OldK s1.heap s'.heap ∧ s'.os = s1.os ∧ AllBare s'.gens) s1 := by
  -- what is no list and no empty table is not tracked
  have un1 : ∀ {b : Addr} {o : Obj}, s1.heap.get? b = some o → (∀ us n, o.data ≠ .seq us n) → o.data ≠ .fields #[] → H b = none := by
    intro b o e h1 h2
    cases q : H b with
    | none => rfl
    | some u =>
      rcases hA b (by rw [q]; exact fun z => nomatch z) with rfl | rfl
      · rw [ha] at e; cases e; exact absurd rfl (h1 _ _)
      · rw [hT] at e; cases e; exact absurd rfl h2
  have unD : ∀ {b : Addr} {o : Obj} {es : Array DictEntry} {n : Nat}, s1.heap.get? b = some o → o.data = .dict es n → H b = none := by
    intro b o es n e d
    refine un1 e (fun us m z => ?_) (fun z => ?_)
    · rw [d] at z; cases z
    · rw [d] at z; cases z
  have nsH : ∀ {b : Addr} {m : Str → Option Value}, s1.heap.Ns b m → (hidT s1.heap H).Ns b m := fun ⟨o, es, n, e, d, r⟩ => ⟨o, es, n, hidT_get e (unD e d), d, r⟩
  have kH : K.In (hidT s1.heap H) := by
    intro b o e
    refine hidT_get (KX b o e) ?_
    cases q : H b with
    | none => rfl
    | some u =>
      rcases hA b (by rw [q]; exact fun z => nomatch z) with rfl | rfl
      · rw [hK (by rw [q]; exact fun z => nomatch z)] at e; cases e
      · rw [nT] at e; cases e
  have tb : TabB (hidT s1.heap H) mg c T := by
    refine ⟨?_, ?_, ?_⟩
    · obtain ⟨o, us, fl, tf, fg, tg, inF, tx, tt, e1, r1, r2, r3, r4, r5, r6, r7, r8, r9⟩ := hC
      refine ⟨o, us, fl, tf, fg, tg, inF, tx, tt, hidT_get e1 (un1 e1 (fun us' n z => ?_) fun z => ?_), r1, r2, r3, r4, r5, r6, r7, r8, r9⟩
      · rw [r2] at z; cases z
      · rw [r2] at z; cases z; simp at r3
    · obtain ⟨bm, ob, b1, b2, b3, b4, b5, b6⟩ := hm
      refine ⟨bm, ob, b1, b2, fun q => ?_, fun q => ?_, hidT_get b3 (un1 b3 (fun us n z => ?_) fun z => ?_), b4, b5, b6⟩
      · obtain ⟨o, es, n, e, d, _⟩ := gN
        rw [q, e] at b3; cases b3; rw [d] at b6; cases b6
      · rw [q, hT] at b3; cases b3; cases b6
      · rw [b6] at z; cases z
      · rw [b6] at z; cases z
    · intro z
      obtain ⟨o, es, n, e, d, _⟩ := gN
      rw [z, hT] at e; cases e; cases d
  have md : L2.Mod K mg (hidT s1.heap H) := by
    obtain ⟨mc, l1, l2⟩ := nl
    exact ⟨kH, nsH gN, ⟨mb, nsH bN, bB⟩, mc, nsH l1, l2⟩
  have e0 : Env0 P w K mg (hidT s1.heap H) callerA [] s1 H := ⟨rfl, md, fun b o e => of_hidT e, Nat.le_of_eq (hidT_size _ _), trivial, fun b z => absurd (show b ∈ ([] : List Addr) from z) (by simp), hok, .of_eq g0⟩
  refine codeAny_mono ((F _ kH (nsH gN) tb).run callerA [] s1 H ⟨[.ref a], []⟩ [.ref a] [.ref a] _ _ rfl hr e0 (hb s1 (.ref a)) (.cons rfl .nil) (hsp H hH hS)) fun r s' q => ?_
  match r, q with
  | .error e, q => exact (show False from q).elim
  | .ok .next, q => exact False.elim q
  | .ok .brk, q => exact False.elim q
  | .ok .cont, q => exact False.elim q
  | .ok (.ret u), q =>
    obtain ⟨v, H2, os, br, un, hok2, rv, ev⟩ := q
    obtain rfl : v = .bl true := ev
    obtain rfl : u = Value.bool true := rv
    have old : ∀ b o, b ≠ T → s1.heap.get? b = some o → s'.heap.get? b = some o := by
      intro b o nb e
      cases q : H b with
      | none => exact un.keep b o e q (fun z => absurd (show b ∈ ([] : List Addr) from z) (by simp)) (by simp)
      | some u =>
        rcases hO b with z | z | ⟨ob, xs, z⟩
        · rw [q] at z; cases z
        · exact absurd z nb
        · obtain ⟨e1, _⟩ := hok b _ z
          obtain ⟨e2, _⟩ := hok2 b _ (un.frzs b ob _ z)
          rw [e] at e1; cases e1; exact e2
    obtain ⟨more, z⟩ := un.tbls T #[] hH
    have grown := hok2 T _ z
    refine ⟨rfl, ⟨fun b o e => ?_, fun b o e => ?_⟩, os, br⟩
    · by_cases q : b = T
      · subst q
        rw [hT] at e; cases e
        exact .inr (.inl ⟨(hC.tab hT).isCodeTable, rfl, #[], more, rfl, by rw [Array.empty_append]; exact Eq.trans grown (by rw [Array.empty_append])⟩)
      · exact .inl (old b o q e)
    · by_cases q : b = T
      · subst q; exact ⟨_, grown⟩
      · exact ⟨o, old b o q e⟩
theorem law_callG (KX : K.In s1.heap) (gN : s1.heap.Ns mainGlobals mg) (bN : s1.heap.Ns builtinsNs mb) (bB : ∀ y : Str, y ≠ "__name__" → mb y = bootBuiltins y) (nl : s1.heap.NoLimit) (g0 : s1.gens = #[])
    (hT : s1.heap.get? T = some { cls := .none, data := .fields #[] }) (nT : K.lookup T = none) (hC : PySem.W.CodeHd s1.heap c T)
    (hm : ∃ (bm : Addr) (ob : Obj), mg "__builtins__" = some (.ref bm) ∧ bm ≠ builtinsNs ∧ s1.heap.get? bm = some ob ∧ ob.cls = .type "module" ∧ ob.dict = some builtinsNs ∧ ob.data = .plain)
    (ha : s1.heap.get? a = some { cls := .type "list", data := .seq vs.toArray }) (hi : IntsAre vs ns) (hl : ns.length ≤ sizeLine) (hr : Room k callerA)
    (F : ∀ base : Heap, K.In base → base.Ns mainGlobals mg → TabB base mg c T → FnG P w K mg base CX0 k fa fd [x] sp) (hb : ∀ (s : Shared) (u : Value), BindsTo s fd ⟨[u], []⟩ [(x, u)])
    (hsp : ∀ H : Hp, H T = some (.tbl #[]) → SqL K H a (ns.map V.int) → sp [.ref a] H (fun v _ => v = .bl true) fun _ _ _ => False) :
    codeAny (model P w) callerA (.call (.ref fa) ⟨[.ref a], []⟩) (fun r s' => r = .ok (.ret (.bool true)) ∧ OldK s1.heap s'.heap ∧ s'.os = s1.os ∧ AllBare s'.gens) s1 := by
  have rv := vals_ints hi
  have lv := hi.length
  have aT : a ≠ T := fun z => by
    rw [z, hT] at ha
    have := congrArg Obj.data (Option.some.inj ha)
    cases this
  cases hk : K.lookup a with
  | some o =>
    have e := KX a o hk
    rw [ha] at e; cases e
    refine end_from KX gN bN bB nl g0 hT nT hC hm ha hr F hb hsp (upd (fun _ => none) T (.tbl #[])) upd_same (fun b => ?_) (.inr ⟨_, vs.toArray, _, hk, rfl, rfl, rfl, by rw [List.size_toArray, lv]; exact hl, by simpa using rv⟩) (fun b u z => ?_) (fun b z => ?_) (fun z => absurd (upd_ne aT) z)
    · by_cases q : b = T
      · exact .inr (.inl q)
      · exact .inl (upd_ne q)
    · by_cases q : b = T
      · subst q; rw [upd_same] at z; cases z; exact hT
      · rw [upd_ne q] at z; cases z
    · by_cases q : b = T
      · exact .inr q
      · exact absurd (upd_ne q) z
  | none =>
    refine end_from KX gN bN bB nl g0 hT nT hC hm ha hr F hb hsp (upd (upd (fun _ => none) T (.tbl #[])) a (.frz { cls := .type "list", data := .seq vs.toArray } (.lst (ns.map V.int)))) (by rw [upd_ne (Ne.symm aT), upd_same]) (fun b => ?_) (.inl (.inr ⟨_, upd_same⟩)) (fun b u z => ?_) (fun b z => ?_) (fun _ => hk)
    · by_cases q : b = a
      · subst q; exact .inr (.inr ⟨_, _, upd_same⟩)
      · by_cases q2 : b = T
        · exact .inr (.inl q2)
        · exact .inl (by rw [upd_ne q, upd_ne q2])
    · by_cases q : b = a
      · subst q; rw [upd_same] at z; cases z
        exact ⟨ha, by rw [List.length_map]; exact hl, vs, _, rv, ha⟩
      · rw [upd_ne q] at z
        by_cases q2 : b = T
        · subst q2; rw [upd_same] at z; cases z; exact hT
        · rw [upd_ne q2] at z; cases z
    · by_cases q : b = a
      · exact .inl q
      · by_cases q2 : b = T
        · exact .inr q2
        · exact absurd (by rw [upd_ne q, upd_ne q2]) z
end
/-- what the end wants to know at the head's heap -/
def LawAtG (l : PySem.W.OpenLaw) (w : World) (K : PySem.W.Frag) (k n : Nat) (x : Str) (mg : Str → Option Value) (fa : Addr) (h : Heap) : Prop :=
  ∃ (fd : FuncData) (c T : Addr) (sp : Sp), h.get? T = some { cls := .none, data := .fields #[] } ∧ K.lookup T = none ∧ PySem.W.CodeHd h c T ∧ (∀ (s : Shared) (u : Value), BindsTo s fd ⟨[u], []⟩ [(x, u)]) ∧
    (∀ (H : Hp) (a : Addr) (ns : List Int), ns.length ≤ n → H T = some (.tbl #[]) → SqL K H a (ns.map V.int) → sp [.ref a] H (fun v _ => v = .bl true) fun _ _ _ => False) ∧
    ∀ base : Heap, K.In base → base.Ns mainGlobals mg → TabB base mg c T → FnG l.prog w K mg base CX0 k fa fd [x] sp
theorem walk_ofG {l : PySem.W.OpenLaw} {n k : Nat} {q : Program} {loose : List Str} {XP : (Str → Option Value) → Heap → Prop} {YP : World → Heap → Prop} {d : DefRec} {x : Str} (hn : l.most = some n) (hn2 : n ≤ sizeLine) (hdf : d.params.defaults = []) (hr : Room k callerA)
    (F : ∀ (w : World) (mg : Str → Option Value) (fa : Addr) (h : Heap), YP w h → h.Ns mainGlobals mg → mg d.name = some (.ref fa) → ∃ K : PySem.W.Frag, K.In h ∧ LawAtG l w K k n x mg fa h) :
    PySem.W.WalkO q loose XP YP l.row.toRowW d [] (fun f vs => PySem.call f vs) := by
  refine Att.attach_callB hn hdf fun w s0 s1 mg mb fa o pm cd doc a vs ns G Y ho hd hcd hmg hobj hints hlen hbits hg => ?_
  obtain ⟨K, KX, fd, c, T, sp, hT, nT, C, hb, hsp, hF⟩ := F w mg fa _ Y G.T.g hmg
  exact law_callG KX G.T.g G.T.b G.T.builtins G.T.nolimit hg hT nT C G.T.bmain hobj hints (Nat.le_trans hlen hn2) hr hF hb fun H hH hS => hsp H a ns hlen hH hS
end KR
set_option Elab.async false
set_option linter.all false
set_option maxRecDepth 100000
set_option maxHeartbeats 4000000
namespace KD
open PySem PySem.Spec PyProof.Rows L2 KT KR LamX NdefX KH
def Cc (K : PySem.W.Frag) : Kd := ⟨He.ga K "Part", He.ga K "Kind", He.ga K "Zone", He.ga K "Machine"⟩
abbrev cNs (K : PySem.W.Frag) : Addr := He.ga K "NoScale"
theorem eqB_ok {a b : Option Bool} (h : KH.eqB a b = true) : a = b := by
  match a, b, h with
  | some true, some true, _ => rfl
  | some false, some false, _ => rfl
theorem specC {K : PySem.W.Frag} : PySem.W.specialIn K (.builtin "object.__class__") "__get__" = some (some (.builtin "getset_descriptor.__get__")) := by
  show PySem.W.specialIn [] (.builtin "object.__class__") "__get__" = _
  decide +kernel
theorem takC {K : PySem.W.Frag} : PySem.W.takesIn K (.builtin "object.__class__") = some true := by
  show PySem.W.takesIn [] (.builtin "object.__class__") = _
  decide +kernel
section
variable {K : PySem.W.Frag} {h : Heap} {mg : Str → Option Value}
theorem exI (c : ex K = true) (i : Nat) {b : Bool} (e : (exs K)[i]? = some b := by rfl) : b = true := List.all_eq_true.mp c b (List.mem_of_getElem? e)
theorem fI (c : SaysK h K) (i : Nat) {f : He.Fa} (e : fa[i]? = some f := by rfl) : f.ok K = true := c.d.fact i e
theorem glo (X : K.In h) (G : h.Ns mainGlobals mg) (c : SaysK h K) {x : Str} (hx : needG.contains x = true) : mg x = some (.ref (He.ga K x)) :=
  He.glo_ok X G (He.SaysD.facts c.d (List.mem_append_left _ (List.mem_map.mpr ⟨x, List.contains_iff_mem.mp hx, rfl⟩)))
theorem fre (X : K.In h) (G : h.Ns mainGlobals mg) (c : SaysK h K) {x : Str} (hx : frees.contains x = true) : mg x = none :=
  He.free_ok X G (He.SaysD.facts c.d (List.mem_append_right _ (List.mem_append_left _ (List.mem_map.mpr ⟨x, List.contains_iff_mem.mp hx, rfl⟩))))
theorem zmeth (c : SaysK h K) {x : Str} (hx : zoneM.contains x = true) : Meth K (He.ga K "Zone") x (He.ma K (He.ga K "Zone") x) := by
  refine He.meth_ok (He.SaysD.facts c.d ?_)
  unfold fa
  simp only [List.mem_append]
  exact .inr (.inr (.inr (.inr (.inr (.inr (List.mem_map.mpr ⟨x, List.contains_iff_mem.mp hx, rfl⟩))))))
theorem kl_ok {x : Str} (h1 : (He.Fa.cls x).ok K = true) (h2 : klB K (He.ga K x) = true) : Kl K (He.ga K x) := by
  obtain ⟨a, b⟩ := He.ba h2
  exact ⟨He.cls_ok h1, He.eqO_ok a, specC, takC, eqB_ok b⟩
theorem blt (X : K.In h) (G : h.Ns mainGlobals mg) (c : SaysK h K) : Blt mg :=
  ⟨fre X G c (by decide +kernel), fre X G c (by decide +kernel), fre X G c (by decide +kernel), fre X G c (by decide +kernel), fre X G c (by decide +kernel), fre X G c (by decide +kernel), fre X G c (by decide +kernel), fre X G c (by decide +kernel), fre X G c (by decide +kernel),
    fre X G c (by decide +kernel), fre X G c (by decide +kernel), fre X G c (by decide +kernel), fre X G c (by decide +kernel)⟩
theorem kd_ok (X : K.In h) (G : h.Ns mainGlobals mg) (c : SaysK h K) : KdOk K mg (Cc K) where
  gPart := glo X G c (by decide +kernel)
  gKind := glo X G c (by decide +kernel)
  kind := kl_ok (fI c 76) (exI c.more 0)
  isKP := eqB_ok (exI c.more 2)
  isKK := eqB_ok (exI c.more 3)
  nDepth := He.noat_ok (fI c 63)
  nName := He.noat_ok (fI c 64)
  nTimes := He.noat_ok (fI c 65)
  gBYTE := let ⟨t, e⟩ := He.str_ok X G (fI c 61); ⟨_, e, t, rfl⟩
  gMT := let ⟨t, e⟩ := He.int_ok X G (fI c 58); ⟨_, e, t, rfl⟩
  gMK := let ⟨t, e⟩ := He.int_ok X G (fI c 59); ⟨_, e, t, rfl⟩
  gLong := let ⟨t, e⟩ := He.int_ok X G (fI c 60); ⟨_, e, t, rfl⟩
  gLet := let ⟨t, e⟩ := He.str_ok X G (fI c 62); ⟨_, e, t, rfl⟩
theorem zn_ok (c : SaysK h K) : ZnOk K (Cc K).zone where
  cl := He.cls_ok (fI c 77)
  nKinds := He.noat_ok (fI c 66)
  nScales := He.noat_ok (fI c 67)
  nNames := He.noat_ok (fI c 68)
  nTold := He.noat_ok (fI c 69)
  nTable := He.noat_ok (fI c 70)
theorem zg_ok (X : K.In h) (G : h.Ns mainGlobals mg) (c : SaysK h K) : ZgOk K mg (Cc K) where
  gZone := glo X G c (by decide +kernel)
  gMach := glo X G c (by decide +kernel)
  kl := kl_ok (fI c 77) (exI c.more 1)
  most := He.conB_ok (exI c.more 4) (by decide +kernel)
  isZZ := eqB_ok (exI c.more 5)
  isDM := eqB_ok (exI c.more 6)
  isNZ := eqB_ok (exI c.more 7)
  isSZ := eqB_ok (exI c.more 8)
  isTZ := eqB_ok (exI c.more 9)
theorem zo_ok (c : SaysK h K) : ZoOk K (Cc K).zone := by
  obtain ⟨h1, h⟩ := He.ba (exI c.more 10)
  obtain ⟨h2, h⟩ := He.ba h
  obtain ⟨h3, h⟩ := He.ba h
  obtain ⟨h4, h⟩ := He.ba h
  obtain ⟨h5, h⟩ := He.ba h
  obtain ⟨h6, h7⟩ := He.ba h
  refine ⟨h1, He.eqO_ok h2, h3, h4, h5, h6, ?_⟩
  cases e : PySem.W.clsIn K (He.ga K "Zone") with
  | none => rw [e] at h7; cases h7
  | some cd => rw [e] at h7; exact ⟨cd, e, h7⟩
theorem oex_ok {C : Addr} (h : oexB K C = true) : OexC K C := by
  obtain ⟨h1, h⟩ := He.ba h
  obtain ⟨h2, h⟩ := He.ba h
  obtain ⟨h3, h⟩ := He.ba h
  obtain ⟨h4, h5⟩ := He.ba h
  refine ⟨?_, He.eqO_ok h2, eqB_ok h3, of_decide_eq_true h4, h5⟩
  split at h1
  · rename_i dd cd sl ho
    split at h1
    · rename_i C' bm k0 k1 k2 k3 n k5 hm hs
      obtain ⟨g1, g⟩ := He.ba h1
      obtain ⟨g2, g⟩ := He.ba g
      obtain ⟨g3, g⟩ := He.ba g
      obtain ⟨g4, g5⟩ := He.ba g
      have e1 := of_decide_eq_true g1
      have e2 := of_decide_eq_true g2
      subst e1 e2
      obtain ⟨nm, bs, mro, ns, qn, hd, sn, sub, ab, col, del⟩ := cd
      have hdel : del = false := by
        have g3 : (!del) = true := g3
        cases del with
        | false => rfl
        | true => cases g3
      have hdd : hd = true := g4
      have hm : mro = .ref C' :: bm := hm
      subst hdel hdd hm
      have hsl : sl = #[k0, k1, k2, k3, some (.builtin "ValueError.__new__"), k5] := by
        obtain ⟨l⟩ := sl
        exact congrArg Array.mk hs
      subst hsl
      exact ⟨nm, qn, ns, bs, bm, sn, sub, ab, col, dd, k0, k1, k2, k3, k5, ho, g5⟩
    · cases h1
  · cases h1
theorem ns_ok (X : K.In h) (G : h.Ns mainGlobals mg) (c : SaysK h K) : NsOk K mg (cNs K) := ⟨glo X G c (by decide +kernel), oex_ok (exI c.more 11), He.noat_ok (fI c 71)⟩
theorem exc_ok {C : Addr} (h : excB K C = true) : ExcC K C := by
  obtain ⟨h1, h⟩ := He.ba h
  obtain ⟨h2, h3⟩ := He.ba h
  have x := xfB_ok h1
  exact ⟨x.ga, x.gg, x.exC, x.hdC, He.eqO_ok h2, specC, takC, eqB_ok h3⟩
theorem he_ok (X : K.In h) (G : h.Ns mainGlobals mg) (c : SaysK h K) : HeOk K mg (cNs K) where
  pad := ⟨_, glo X G c (by decide +kernel), eqB_ok (exI c.more 13)⟩
  bp := ⟨_, glo X G c (by decide +kernel), eqB_ok (exI c.more 14)⟩
  ta := ⟨_, glo X G c (by decide +kernel), eqB_ok (exI c.more 15)⟩
  ns := ⟨glo X G c (by decide +kernel), eqB_ok (exI c.more 16)⟩
  bb := ⟨_, glo X G c (by decide +kernel), eqB_ok (exI c.more 17)⟩
  ba := ⟨_, glo X G c (by decide +kernel), eqB_ok (exI c.more 18)⟩
  ex := exc_ok (exI c.more 12)
  xf := xfB_ok (He.ba (exI c.more 12)).1
  nSc := He.noat_ok (fI c 71)
theorem cread_ok {C : Addr} (h : creadB K C = true) : ClX.CRead K C (.type "type") := ⟨(He.ba h).1, He.eqO_ok (He.ba h).2⟩
theorem pt_ok (c : SaysK h K) : PtOk K mg (Cc K) := by
  have h1 : cvalB K (He.ga K "Part") "DEPTH" (.int 4) = true := exI c.more 20
  refine ⟨.type "type", ?_⟩
  unfold cvalB at h1
  split at h1
  · rename_i u hu
    exact ⟨u, cread_ok (exI c.more 19), hu, He.relB_ok h1⟩
  · cases h1
theorem bar_ok (X : K.In h) (G : h.Ns mainGlobals mg) (c : SaysK h K) : BarAt K mg := by
  have h1 := He.tupB_ok (exI c.more 27) (fun _ => none)
  rcases h1 with (z | ⟨_, z⟩) | ⟨o, its, n, a1, a2, a3, a4, a5⟩
  · cases z
  · cases z
  · exact ⟨_, o, its, n, glo X G c (by decide +kernel), a1, a2, a3, a4, a5⟩
theorem cmet_ok (c : SaysK h K) : ClX.CMet K (He.ga K "Zone") (.type "type") "of" (ofP K) (ofG K) := by
  obtain ⟨h1, h⟩ := He.ba (exI c.more 22)
  obtain ⟨h2, h3⟩ := He.ba h
  refine ⟨?_, ?_, h3⟩
  · split at h1
    · rename_i g p cc e
      obtain ⟨a1, a⟩ := He.ba h1
      obtain ⟨a2, a3⟩ := He.ba a
      rw [e, of_decide_eq_true a1, of_decide_eq_true a2, of_decide_eq_true a3]
    · cases h1
  · unfold ofG
    split at h2
    · rename_i g rest e
      rw [e]
      exact ⟨rest, rfl⟩
    · cases h2
theorem of_df (c : SaysK h K) : ∃ fd, FnDf K "of" "Zone.of" s_Zone_of (ofG K) fd := by
  obtain ⟨kp, h2⟩ := He.ba (exI c.more 26)
  have e := c.of_
  unfold fnC at e
  cases q : K.lookup (ofG K) with
  | none => rw [q] at h2; cases h2
  | some o =>
    obtain ⟨oc, od, dt, osl⟩ := o
    rw [q] at h2 e
    cases dt with
    | func fd =>
      obtain ⟨n1, n2, n3, n4, n5, n6, n7, n8, n9, n10, n11, n12, n13, n14, n15⟩ := fd
      have e2 : (some (n1, n2, n3, n4, n5, n6, n7.map (·.1), n15) : FnC) = ofV := e
      unfold ofV at e2
      simp only [Option.some.injEq, Prod.mk.injEq, List.map_eq_nil_iff] at e2
      obtain ⟨h1, h2', h3, h4, h5, h6, h7, h8⟩ := e2
      subst h1 h2' h3 h4 h5 h6 h7 h8
      have c3 : (PySem.W.codeIn K n13 "Zone.of" && He.dflB K n8 []) = true := h2
      obtain ⟨k1, k2⟩ := He.ba c3
      exact ⟨_, ⟨oc, od, n8, n9, n10, n11, n12, n13, n14, osl, rfl, q, k1, He.dflB_ok k2, .inl rfl⟩, kp⟩
    | _ => cases h2
theorem bm_ok (c : SaysK h K) : BMeth K (Cc K).zone "bounded" (He.ma K (He.ga K "Zone") "bounded") := by
  obtain ⟨h1, h⟩ := He.ba (exI c.more 23)
  obtain ⟨h2, h3⟩ := He.ba h
  exact ⟨zmeth c (by decide +kernel), He.eqO_ok h1, eqB_ok h2, by decide +kernel, h3⟩
theorem part_kp (c : SaysK h K) : PySem.W.ks_superIn K (He.ga K "Kind") (He.ga K "Kind") "__init__" = some (some (.ref (piA K))) := He.eqO_ok (He.ba (He.ba (He.ba (exI c.more 25)).2).2).1
/-- Kind.__init__ as it stands -/
theorem ki_df {P : Program} (hP : P = PySem.Challenge.pw_anypads_k32_whole_zones_joined_and_compa) (X : K.In h) (G : h.Ns mainGlobals mg) (c : SaysK h K) :
    ∃ (oc : Value) (od : Option Addr) (fd : FuncData) (osl : Array (Option Value)) (dV kV doc pm ct : Value) (an : Option Addr) (cc cda : Addr),
      fd = PySem.W.fnX "__init__" "Kind.__init__" (defArgs s_Kind_init) (defBody s_Kind_init) (defScope s_Kind_init) [("__class__", cc)] dV kV doc pm an (.ref cda) ct ∧ K.lookup (kiA K) = some ⟨oc, od, .func fd, osl⟩ ∧
      SupK K mg P "Kind.__init__" (kiF cc cda) (kiA K) cc (Cc K).kind (piA K) "__init__" ∧ L2.Binds K fd ["self", "name", "times"] [] := by
  have h1 : kiB K PySem.Challenge.pw_anypads_k32_whole_zones_joined_and_compa.main.file = true := exI c.more 24
  obtain ⟨s1, s⟩ := He.ba (exI c.more 25)
  obtain ⟨s2, s⟩ := He.ba s
  obtain ⟨s3, s⟩ := He.ba s
  obtain ⟨s4, s5⟩ := He.ba s
  have e := c.ki
  unfold fnC at e
  unfold kiB at h1
  cases q : K.lookup (kiA K) with
  | none => rw [q] at h1; cases h1
  | some o =>
    obtain ⟨oc, od, dt, osl⟩ := o
    rw [q] at h1 e
    cases dt with
    | func fd =>
      obtain ⟨n1, n2, n3, n4, n5, n6, n7, n8, n9, n10, n11, n12, n13, n14, n15⟩ := fd
      have e2 : (some (n1, n2, n3, n4, n5, n6, n7.map (·.1), n15) : FnC) = kiV := e
      unfold kiV at e2
      simp only [Option.some.injEq, Prod.mk.injEq] at e2
      obtain ⟨e1, e2, e3, e4, e5, e6, e7, e8⟩ := e2
      subst e1 e2 e3 e4 e5 e6 e8
      match n7, e7 with
      | [(y, cc)], e7 =>
        have ey : y = "__class__" := (List.cons.inj e7).1
        subst ey
        match n13, n8, h1, q with
        | .ref cda, .ref T, h1, q =>
          obtain ⟨a1, a⟩ := He.ba (show ((match K.lookup cc with
              | some ⟨_, _, .cell (some (.ref D)), _⟩ => decide (D = He.ga K "Kind")
              | _ => false) && ((match K.lookup cda with
              | some ⟨_, _, .fields vs, _⟩ => (match (vs[2]? : Option Value) with
                | some (.str y _) => decide (y = PySem.Challenge.pw_anypads_k32_whole_zones_joined_and_compa.main.file)
                | _ => false)
              | _ => false) && (PySem.W.codeIn K (.ref cda) "Kind.__init__" && (match K.lookup T with
              | some ⟨_, _, .seq its _, _⟩ => decide (its.size = 1)
              | _ => false)))) = true from h1)
          obtain ⟨a2, a⟩ := He.ba a
          obtain ⟨a3, a4⟩ := He.ba a
          refine ⟨oc, od, _, osl, .ref T, n9, n10, n11, n14, n12, cc, cda, rfl, rfl, ?_, ?_⟩
          · refine ⟨⟨oc, od, osl, .ref T, n9, n10, n11, n12, n14, q⟩, rfl, ?_, ?_, a3, ?_, He.eqO_ok s1, fre X G c (by decide +kernel), by rw [hP]; decide +kernel, eqB_ok s2, He.eqO_ok s3, of_decide_eq_true s4, s5⟩
            · split at a1
              · rename_i c1 c2 D sl e
                rw [of_decide_eq_true a1] at e
                exact ⟨_, _, _, e⟩
              · cases a1
            · split at a2
              · rename_i c1 c2 vs sl e
                split at a2
                · rename_i y t ev
                  rw [of_decide_eq_true a2] at ev
                  exact ⟨_, _, vs, _, t, e, by rw [hP]; exact ev⟩
                · cases a2
              · cases a2
            · have m2 := eqB_ok s2
              unfold PySem.W.mroIn at m2
              cases z : PySem.W.clsIn K (He.ga K "Kind") with
              | none => rw [z] at m2; cases m2
              | some cd => exact ⟨cd, z⟩
          · split at a4
            · rename_i c1 c2 its n sl e
              intro s us KX hl
              match us, hl with
              | [u1, u2, u3], _ =>
                have hz := of_decide_eq_true a4
                obtain ⟨x, rfl⟩ : ∃ x, its = #[x] := by
                  obtain ⟨l⟩ := its
                  match l, hz with
                  | [x], _ => exact ⟨x, rfl⟩
                refine BindsTo.of_looks fun M => ?_
                obtain ⟨k, e1, e2⟩ : ∃ k : Option (Array Value) → Sem (List (Str × Value)), bindArgs (PySem.W.fnX "__init__" "Kind.__init__" (defArgs s_Kind_init) (defBody s_Kind_init) (defScope s_Kind_init) [("__class__", cc)] (.ref T) n9 n10 n11 n12 (.ref cda) n14) ⟨[u1, u2, u3], []⟩ = seqItems? (.ref T) >>= k ∧
                    k (some #[x]) = pure (([("self", u1), ("name", u2), ("times", u3)] : List (Str × Value))) := ⟨_, rfl, rfl⟩
                refine (?_ : PySem.W.Looks M s.heap (bindArgs (PySem.W.fnX "__init__" "Kind.__init__" (defArgs s_Kind_init) (defBody s_Kind_init) (defScope s_Kind_init) [("__class__", cc)] (.ref T) n9 n10 n11 n12 (.ref cda) n14) ⟨[u1, u2, u3], []⟩) [("self", u1), ("name", u2), ("times", u3)])
                rw [e1]
                exact looks_items KX e rfl (.of_pure e2)
            · cases a4
        | .none, _, h1, _ => cases h1
      | [], e7 => cases e7
      | _ :: _ :: _, e7 => exact absurd (congrArg List.length e7) (by simp)
    | _ => cases h1
end
end KD
set_option Elab.async false
set_option linter.all false
set_option maxRecDepth 100000
set_option maxHeartbeats 4000000
namespace KD
open PySem PySem.Spec PyProof.Rows L2 KT KR LamX NdefX KH
section
variable {P : Program} {w : World} {K : PySem.W.Frag} {mg : Str → Option Value} {base h : Heap} {CX : CXT} {k : Nat} {f C : Addr} {fd : FuncData} {ps : List Str} {sp : Sp} {x m : Str}
theorem fnr_of (F : FnOk P w K mg base CX k f fd ps sp) (b : L2.Binds K fd ps []) : FnR P w K mg base CX k f sp := (F.raw b .nil).imp fun vs H Q E q => by rw [List.append_nil]; exact q
theorem fd_of (g : mg x = some (.ref f)) (kp : PySem.W.keepIn K (.ref f) = true) (F : FnOk P w K mg base CX k f fd ps sp) (b : L2.Binds K fd ps []) : Fd P w K mg base CX k x sp := ⟨f, g, kp, fnr_of F b⟩
theorem md_of (me : Meth K C m f) (F : FnOk P w K mg base CX k f fd ps sp) (b : L2.Binds K fd ps []) : Md P w K mg base CX k C m sp := ⟨f, me, fnr_of F b⟩
theorem df_NoScale_init (c : SaysK h K) : ∃ fd, FnDf K "__init__" "NoScale.__init__" s_NoScale_init (He.ma K (He.ga K "NoScale") "__init__") fd ∧ L2.Binds K fd p_NoScale_init [] := by
  obtain ⟨fd, F⟩ : ∃ fd, FnDf K "__init__" "NoScale.__init__" s_NoScale_init (He.ma K (He.ga K "NoScale") "__init__") fd := c.d.def_ 0 (d := d_NoScale_init) rfl
  exact ⟨fd, F, F.bindsN fun _ _ _ _ _ _ us hl => match us, hl with | [_, _], _ => rfl⟩
theorem df_is_whole (c : SaysK h K) : ∃ fd, FnDf K "is_whole" "is_whole" s_is_whole (He.ga K "is_whole") fd ∧ L2.Binds K fd p_is_whole [] := by
  obtain ⟨fd, F⟩ : ∃ fd, FnDf K "is_whole" "is_whole" s_is_whole (He.ga K "is_whole") fd := c.d.def_ 1 (d := d_is_whole) rfl
  exact ⟨fd, F, F.bindsN fun _ _ _ _ _ _ us hl => match us, hl with | [_], _ => rfl⟩
theorem df_is_between (c : SaysK h K) : ∃ fd, FnDf K "is_between" "is_between" s_is_between (He.ga K "is_between") fd ∧ L2.Binds K fd p_is_between [] := by
  obtain ⟨fd, F⟩ : ∃ fd, FnDf K "is_between" "is_between" s_is_between (He.ga K "is_between") fd := c.d.def_ 2 (d := d_is_between) rfl
  exact ⟨fd, F, F.bindsN fun _ _ _ _ _ _ us hl => match us, hl with | [_, _, _], _ => rfl⟩
theorem df_is_name (c : SaysK h K) : ∃ fd, FnDf K "is_name" "is_name" s_is_name (He.ga K "is_name") fd ∧ L2.Binds K fd p_is_name [] := by
  obtain ⟨fd, F⟩ : ∃ fd, FnDf K "is_name" "is_name" s_is_name (He.ga K "is_name") fd := c.d.def_ 3 (d := d_is_name) rfl
  exact ⟨fd, F, F.bindsN fun _ _ _ _ _ _ us hl => match us, hl with | [_], _ => rfl⟩
theorem df_Part_init (c : SaysK h K) : ∃ fd, FnDf K "__init__" "Part.__init__" s_Part_init (He.ma K (He.ga K "Part") "__init__") fd ∧ L2.Binds K fd p_Part_init [] := by
  obtain ⟨fd, F⟩ : ∃ fd, FnDf K "__init__" "Part.__init__" s_Part_init (He.ma K (He.ga K "Part") "__init__") fd := c.d.def_ 4 (d := d_Part_init) rfl
  exact ⟨fd, F, F.bindsN fun _ _ _ _ _ _ us hl => match us, hl with | [_, _], _ => rfl⟩
theorem df_Part_eq (c : SaysK h K) : ∃ fd, FnDf K "__eq__" "Part.__eq__" s_Part_eq (He.ma K (He.ga K "Kind") "__eq__") fd ∧ L2.Binds K fd p_Part_eq [] := by
  obtain ⟨fd, F⟩ : ∃ fd, FnDf K "__eq__" "Part.__eq__" s_Part_eq (He.ma K (He.ga K "Kind") "__eq__") fd := c.d.def_ 5 (d := d_Part_eq) rfl
  exact ⟨fd, F, F.bindsN fun _ _ _ _ _ _ us hl => match us, hl with | [_, _], _ => rfl⟩
theorem df_Kind_shape (c : SaysK h K) : ∃ fd, FnDf K "shape" "Kind.shape" s_Kind_shape (He.ma K (He.ga K "Kind") "shape") fd ∧ L2.Binds K fd p_Kind_shape [] := by
  obtain ⟨fd, F⟩ : ∃ fd, FnDf K "shape" "Kind.shape" s_Kind_shape (He.ma K (He.ga K "Kind") "shape") fd := c.d.def_ 6 (d := d_Kind_shape) rfl
  exact ⟨fd, F, F.bindsN fun _ _ _ _ _ _ us hl => match us, hl with | [_], _ => rfl⟩
theorem df_need_kinds (c : SaysK h K) : ∃ fd, FnDf K "need_kinds" "need_kinds" s_need_kinds (He.ga K "need_kinds") fd ∧ L2.Binds K fd p_need_kinds [] := by
  obtain ⟨fd, F⟩ : ∃ fd, FnDf K "need_kinds" "need_kinds" s_need_kinds (He.ga K "need_kinds") fd := c.d.def_ 7 (d := d_need_kinds) rfl
  exact ⟨fd, F, F.bindsN fun _ _ _ _ _ _ us hl => match us, hl with | [_], _ => rfl⟩
theorem df_scales_of (c : SaysK h K) : ∃ fd, FnDf K "scales_of" "scales_of" s_scales_of (He.ga K "scales_of") fd ∧ L2.Binds K fd p_scales_of [] := by
  obtain ⟨fd, F⟩ : ∃ fd, FnDf K "scales_of" "scales_of" s_scales_of (He.ga K "scales_of") fd := c.d.def_ 8 (d := d_scales_of) rfl
  exact ⟨fd, F, F.bindsN fun _ _ _ _ _ _ us hl => match us, hl with | [_], _ => rfl⟩
theorem df_own_bounds (c : SaysK h K) : ∃ fd, FnDf K "own_bounds" "own_bounds" s_own_bounds (He.ga K "own_bounds") fd ∧ L2.Binds K fd p_own_bounds [] := by
  obtain ⟨fd, F⟩ : ∃ fd, FnDf K "own_bounds" "own_bounds" s_own_bounds (He.ga K "own_bounds") fd := c.d.def_ 9 (d := d_own_bounds) rfl
  exact ⟨fd, F, F.bindsN fun _ _ _ _ _ _ us hl => match us, hl with | [_], _ => rfl⟩
theorem df_tightened (c : SaysK h K) : ∃ fd, FnDf K "tightened" "tightened" s_tightened (He.ga K "tightened") fd ∧ L2.Binds K fd p_tightened [] := by
  obtain ⟨fd, F⟩ : ∃ fd, FnDf K "tightened" "tightened" s_tightened (He.ga K "tightened") fd := c.d.def_ 10 (d := d_tightened) rfl
  exact ⟨fd, F, F.bindsN fun _ _ _ _ _ _ us hl => match us, hl with | [_, _, _], _ => rfl⟩
theorem df_closed (c : SaysK h K) : ∃ fd, FnDf K "closed" "closed" s_closed (He.ga K "closed") fd ∧ L2.Binds K fd p_closed [] := by
  obtain ⟨fd, F⟩ : ∃ fd, FnDf K "closed" "closed" s_closed (He.ga K "closed") fd := c.d.def_ 11 (d := d_closed) rfl
  exact ⟨fd, F, F.bindsN fun _ _ _ _ _ _ us hl => match us, hl with | [_, _, _], _ => rfl⟩
theorem df_free_table (c : SaysK h K) : ∃ fd, FnDf K "free_table" "free_table" s_free_table (He.ga K "free_table") fd ∧ L2.Binds K fd p_free_table [] := by
  obtain ⟨fd, F⟩ : ∃ fd, FnDf K "free_table" "free_table" s_free_table (He.ga K "free_table") fd := c.d.def_ 12 (d := d_free_table) rfl
  exact ⟨fd, F, F.bindsN fun _ _ _ _ _ _ us hl => match us, hl with | [_], _ => rfl⟩
theorem df_differences (c : SaysK h K) : ∃ fd, FnDf K "differences" "differences" s_differences (He.ga K "differences") fd ∧ L2.Binds K fd p_differences [] := by
  obtain ⟨fd, F⟩ : ∃ fd, FnDf K "differences" "differences" s_differences (He.ga K "differences") fd := c.d.def_ 13 (d := d_differences) rfl
  exact ⟨fd, F, F.bindsN fun _ _ _ _ _ _ us hl => match us, hl with | [_, _], _ => rfl⟩
theorem df_is_point (c : SaysK h K) : ∃ fd, FnDf K "is_point" "is_point" s_is_point (He.ga K "is_point") fd ∧ L2.Binds K fd p_is_point [] := by
  obtain ⟨fd, F⟩ : ∃ fd, FnDf K "is_point" "is_point" s_is_point (He.ga K "is_point") fd := c.d.def_ 14 (d := d_is_point) rfl
  exact ⟨fd, F, F.bindsN fun _ _ _ _ _ _ us hl => match us, hl with | [_, _], _ => rfl⟩
theorem df_Zone_need_names (c : SaysK h K) : ∃ fd, FnDf K "need_names" "Zone.need_names" s_Zone_need_names (He.ma K (He.ga K "Zone") "need_names") fd ∧ L2.Binds K fd p_Zone_need_names [] := by
  obtain ⟨fd, F⟩ : ∃ fd, FnDf K "need_names" "Zone.need_names" s_Zone_need_names (He.ma K (He.ga K "Zone") "need_names") fd := c.d.def_ 16 (d := d_Zone_need_names) rfl
  exact ⟨fd, F, F.bindsN fun _ _ _ _ _ _ us hl => match us, hl with | [_, _, _], _ => rfl⟩
theorem df_Zone_need_point (c : SaysK h K) : ∃ fd, FnDf K "need_point" "Zone.need_point" s_Zone_need_point (He.ma K (He.ga K "Zone") "need_point") fd ∧ L2.Binds K fd p_Zone_need_point [] := by
  obtain ⟨fd, F⟩ : ∃ fd, FnDf K "need_point" "Zone.need_point" s_Zone_need_point (He.ma K (He.ga K "Zone") "need_point") fd := c.d.def_ 17 (d := d_Zone_need_point) rfl
  exact ⟨fd, F, F.bindsN fun _ _ _ _ _ _ us hl => match us, hl with | [_], _ => rfl⟩
theorem df_Zone_need_like (c : SaysK h K) : ∃ fd, FnDf K "need_like" "Zone.need_like" s_Zone_need_like (He.ma K (He.ga K "Zone") "need_like") fd ∧ L2.Binds K fd p_Zone_need_like [] := by
  obtain ⟨fd, F⟩ : ∃ fd, FnDf K "need_like" "Zone.need_like" s_Zone_need_like (He.ma K (He.ga K "Zone") "need_like") fd := c.d.def_ 18 (d := d_Zone_need_like) rfl
  exact ⟨fd, F, F.bindsN fun _ _ _ _ _ _ us hl => match us, hl with | [_, _], _ => rfl⟩
theorem df_Zone_bounded (c : SaysK h K) : ∃ fd, FnDf K "bounded" "Zone.bounded" s_Zone_bounded (He.ma K (He.ga K "Zone") "bounded") fd := c.d.def_ 19 (d := d_Zone_bounded) rfl
theorem df_Zone_within (c : SaysK h K) : ∃ fd, FnDf K "within" "Zone.within" s_Zone_within (He.ma K (He.ga K "Zone") "within") fd ∧ L2.Binds K fd p_Zone_within [] := by
  obtain ⟨fd, F⟩ : ∃ fd, FnDf K "within" "Zone.within" s_Zone_within (He.ma K (He.ga K "Zone") "within") fd := c.d.def_ 20 (d := d_Zone_within) rfl
  exact ⟨fd, F, F.bindsN fun _ _ _ _ _ _ us hl => match us, hl with | [_, _, _, _], _ => rfl⟩
theorem df_Zone_sides (c : SaysK h K) : ∃ fd, FnDf K "sides" "Zone.sides" s_Zone_sides (He.ma K (He.ga K "Zone") "sides") fd ∧ L2.Binds K fd p_Zone_sides [] := by
  obtain ⟨fd, F⟩ : ∃ fd, FnDf K "sides" "Zone.sides" s_Zone_sides (He.ma K (He.ga K "Zone") "sides") fd := c.d.def_ 21 (d := d_Zone_sides) rfl
  exact ⟨fd, F, F.bindsN fun _ _ _ _ _ _ us hl => match us, hl with | [_, _, _, _], _ => rfl⟩
theorem df_Zone_bool (c : SaysK h K) : ∃ fd, FnDf K "__bool__" "Zone.__bool__" s_Zone_bool (He.ma K (He.ga K "Zone") "__bool__") fd ∧ L2.Binds K fd p_Zone_bool [] := by
  obtain ⟨fd, F⟩ : ∃ fd, FnDf K "__bool__" "Zone.__bool__" s_Zone_bool (He.ma K (He.ga K "Zone") "__bool__") fd := c.d.def_ 22 (d := d_Zone_bool) rfl
  exact ⟨fd, F, F.bindsN fun _ _ _ _ _ _ us hl => match us, hl with | [_], _ => rfl⟩
theorem df_Zone_contains (c : SaysK h K) : ∃ fd, FnDf K "__contains__" "Zone.__contains__" s_Zone_contains (He.ma K (He.ga K "Zone") "__contains__") fd ∧ L2.Binds K fd p_Zone_contains [] := by
  obtain ⟨fd, F⟩ : ∃ fd, FnDf K "__contains__" "Zone.__contains__" s_Zone_contains (He.ma K (He.ga K "Zone") "__contains__") fd := c.d.def_ 23 (d := d_Zone_contains) rfl
  exact ⟨fd, F, F.bindsN fun _ _ _ _ _ _ us hl => match us, hl with | [_, _], _ => rfl⟩
theorem df_Zone_and (c : SaysK h K) : ∃ fd, FnDf K "__and__" "Zone.__and__" s_Zone_and (He.ma K (He.ga K "Zone") "__and__") fd ∧ L2.Binds K fd p_Zone_and [] := by
  obtain ⟨fd, F⟩ : ∃ fd, FnDf K "__and__" "Zone.__and__" s_Zone_and (He.ma K (He.ga K "Zone") "__and__") fd := c.d.def_ 24 (d := d_Zone_and) rfl
  exact ⟨fd, F, F.bindsN fun _ _ _ _ _ _ us hl => match us, hl with | [_, _], _ => rfl⟩
theorem df_Zone_le (c : SaysK h K) : ∃ fd, FnDf K "__le__" "Zone.__le__" s_Zone_le (He.ma K (He.ga K "Zone") "__le__") fd ∧ L2.Binds K fd p_Zone_le [] := by
  obtain ⟨fd, F⟩ : ∃ fd, FnDf K "__le__" "Zone.__le__" s_Zone_le (He.ma K (He.ga K "Zone") "__le__") fd := c.d.def_ 25 (d := d_Zone_le) rfl
  exact ⟨fd, F, F.bindsN fun _ _ _ _ _ _ us hl => match us, hl with | [_, _], _ => rfl⟩
theorem df_Zone_eq (c : SaysK h K) : ∃ fd, FnDf K "__eq__" "Zone.__eq__" s_Zone_eq (He.ma K (He.ga K "Zone") "__eq__") fd ∧ L2.Binds K fd p_Zone_eq [] := by
  obtain ⟨fd, F⟩ : ∃ fd, FnDf K "__eq__" "Zone.__eq__" s_Zone_eq (He.ma K (He.ga K "Zone") "__eq__") fd := c.d.def_ 26 (d := d_Zone_eq) rfl
  exact ⟨fd, F, F.bindsN fun _ _ _ _ _ _ us hl => match us, hl with | [_, _], _ => rfl⟩
theorem df_Zone_bounds (c : SaysK h K) : ∃ fd, FnDf K "bounds" "Zone.bounds" s_Zone_bounds (He.ma K (He.ga K "Zone") "bounds") fd ∧ L2.Binds K fd p_Zone_bounds [] := by
  obtain ⟨fd, F⟩ : ∃ fd, FnDf K "bounds" "Zone.bounds" s_Zone_bounds (He.ma K (He.ga K "Zone") "bounds") fd := c.d.def_ 27 (d := d_Zone_bounds) rfl
  exact ⟨fd, F, F.bindsN fun _ _ _ _ _ _ us hl => match us, hl with | [_], _ => rfl⟩
theorem df_L_pen (c : SaysK h K) : ∃ fd, FnDf K "_law_pen" "_law_pen" s_L_pen (He.ga K "_law_pen") fd ∧ L2.Binds K fd p_L_pen [] := by
  obtain ⟨fd, F⟩ : ∃ fd, FnDf K "_law_pen" "_law_pen" s_L_pen (He.ga K "_law_pen") fd := c.d.def_ 28 (d := d_L_pen) rfl
  exact ⟨fd, F, F.bindsN fun _ _ _ _ _ _ us hl => match us, hl with | [_], _ => rfl⟩
theorem df_L_draw (c : SaysK h K) : ∃ fd, FnDf K "_law_draw" "_law_draw" s_L_draw (He.ga K "_law_draw") fd ∧ L2.Binds K fd p_L_draw [] := by
  obtain ⟨fd, F⟩ : ∃ fd, FnDf K "_law_draw" "_law_draw" s_L_draw (He.ga K "_law_draw") fd := c.d.def_ 29 (d := d_L_draw) rfl
  exact ⟨fd, F, F.bindsN fun _ _ _ _ _ _ us hl => match us, hl with | [_, _], _ => rfl⟩
theorem df_L_pick (c : SaysK h K) : ∃ fd, FnDf K "_law_pick" "_law_pick" s_L_pick (He.ga K "_law_pick") fd ∧ L2.Binds K fd p_L_pick [] := by
  obtain ⟨fd, F⟩ : ∃ fd, FnDf K "_law_pick" "_law_pick" s_L_pick (He.ga K "_law_pick") fd := c.d.def_ 30 (d := d_L_pick) rfl
  exact ⟨fd, F, F.bindsN fun _ _ _ _ _ _ us hl => match us, hl with | [_, _], _ => rfl⟩
theorem df_L_names (c : SaysK h K) : ∃ fd, FnDf K "_law_names" "_law_names" s_L_names (He.ga K "_law_names") fd ∧ L2.Binds K fd p_L_names [] := by
  obtain ⟨fd, F⟩ : ∃ fd, FnDf K "_law_names" "_law_names" s_L_names (He.ga K "_law_names") fd := c.d.def_ 31 (d := d_L_names) rfl
  exact ⟨fd, F, F.bindsN fun _ _ _ _ _ _ us hl => match us, hl with | [_, _], _ => rfl⟩
theorem df_L_kinds (c : SaysK h K) : ∃ fd, FnDf K "_law_kinds" "_law_kinds" s_L_kinds (He.ga K "_law_kinds") fd ∧ L2.Binds K fd p_L_kinds [] := by
  obtain ⟨fd, F⟩ : ∃ fd, FnDf K "_law_kinds" "_law_kinds" s_L_kinds (He.ga K "_law_kinds") fd := c.d.def_ 32 (d := d_L_kinds) rfl
  exact ⟨fd, F, F.bindsN fun _ _ _ _ _ _ us hl => match us, hl with | [_, _], _ => rfl⟩
theorem df_L_scales (c : SaysK h K) : ∃ fd, FnDf K "_law_scales" "_law_scales" s_L_scales (He.ga K "_law_scales") fd ∧ L2.Binds K fd p_L_scales [] := by
  obtain ⟨fd, F⟩ : ∃ fd, FnDf K "_law_scales" "_law_scales" s_L_scales (He.ga K "_law_scales") fd := c.d.def_ 33 (d := d_L_scales) rfl
  exact ⟨fd, F, F.bindsN fun _ _ _ _ _ _ us hl => match us, hl with | [_], _ => rfl⟩
theorem df_L_own (c : SaysK h K) : ∃ fd, FnDf K "_law_own" "_law_own" s_L_own (He.ga K "_law_own") fd ∧ L2.Binds K fd p_L_own [] := by
  obtain ⟨fd, F⟩ : ∃ fd, FnDf K "_law_own" "_law_own" s_L_own (He.ga K "_law_own") fd := c.d.def_ 34 (d := d_L_own) rfl
  exact ⟨fd, F, F.bindsN fun _ _ _ _ _ _ us hl => match us, hl with | [_], _ => rfl⟩
theorem df_L_point (c : SaysK h K) : ∃ fd, FnDf K "_law_point" "_law_point" s_L_point (He.ga K "_law_point") fd ∧ L2.Binds K fd p_L_point [] := by
  obtain ⟨fd, F⟩ : ∃ fd, FnDf K "_law_point" "_law_point" s_L_point (He.ga K "_law_point") fd := c.d.def_ 35 (d := d_L_point) rfl
  exact ⟨fd, F, F.bindsN fun _ _ _ _ _ _ us hl => match us, hl with | [_, _, _], _ => rfl⟩
theorem df_L_bounds (c : SaysK h K) : ∃ fd, FnDf K "_law_bounds" "_law_bounds" s_L_bounds (He.ga K "_law_bounds") fd ∧ L2.Binds K fd p_L_bounds [] := by
  obtain ⟨fd, F⟩ : ∃ fd, FnDf K "_law_bounds" "_law_bounds" s_L_bounds (He.ga K "_law_bounds") fd := c.d.def_ 36 (d := d_L_bounds) rfl
  exact ⟨fd, F, F.bindsN fun _ _ _ _ _ _ us hl => match us, hl with | [_, _, _], _ => rfl⟩
theorem df_L_zone (c : SaysK h K) : ∃ fd, FnDf K "_law_zone" "_law_zone" s_L_zone (He.ga K "_law_zone") fd ∧ L2.Binds K fd p_L_zone [] := by
  obtain ⟨fd, F⟩ : ∃ fd, FnDf K "_law_zone" "_law_zone" s_L_zone (He.ga K "_law_zone") fd := c.d.def_ 37 (d := d_L_zone) rfl
  exact ⟨fd, F, F.bindsN fun _ _ _ _ _ _ us hl => match us, hl with | [_, _], _ => rfl⟩
theorem df_L_ways (c : SaysK h K) : ∃ fd, FnDf K "_law_ways" "_law_ways" s_L_ways (He.ga K "_law_ways") fd ∧ L2.Binds K fd p_L_ways [] := by
  obtain ⟨fd, F⟩ : ∃ fd, FnDf K "_law_ways" "_law_ways" s_L_ways (He.ga K "_law_ways") fd := c.d.def_ 38 (d := d_L_ways) rfl
  exact ⟨fd, F, F.bindsN fun _ _ _ _ _ _ us hl => match us, hl with | [_, _], _ => rfl⟩
theorem df_L_reaching (c : SaysK h K) : ∃ fd, FnDf K "_law_reaching" "_law_reaching" s_L_reaching (He.ga K "_law_reaching") fd ∧ L2.Binds K fd p_L_reaching [] := by
  obtain ⟨fd, F⟩ : ∃ fd, FnDf K "_law_reaching" "_law_reaching" s_L_reaching (He.ga K "_law_reaching") fd := c.d.def_ 39 (d := d_L_reaching) rfl
  exact ⟨fd, F, F.bindsN fun _ _ _ _ _ _ us hl => match us, hl with | [_, _, _, _], _ => rfl⟩
theorem df_L_heard (c : SaysK h K) : ∃ fd, FnDf K "_law_heard" "_law_heard" s_L_heard (He.ga K "_law_heard") fd ∧ L2.Binds K fd p_L_heard [] := by
  obtain ⟨fd, F⟩ : ∃ fd, FnDf K "_law_heard" "_law_heard" s_L_heard (He.ga K "_law_heard") fd := c.d.def_ 40 (d := d_L_heard) rfl
  exact ⟨fd, F, F.bindsN fun _ _ _ _ _ _ us hl => match us, hl with | [_], _ => rfl⟩
theorem df_L_is_told (c : SaysK h K) : ∃ fd, FnDf K "_law_is_told" "_law_is_told" s_L_is_told (He.ga K "_law_is_told") fd ∧ L2.Binds K fd p_L_is_told [] := by
  obtain ⟨fd, F⟩ : ∃ fd, FnDf K "_law_is_told" "_law_is_told" s_L_is_told (He.ga K "_law_is_told") fd := c.d.def_ 41 (d := d_L_is_told) rfl
  exact ⟨fd, F, F.bindsN fun _ _ _ _ _ _ us hl => match us, hl with | [_, _, _], _ => rfl⟩
theorem df_L_within (c : SaysK h K) : ∃ fd, FnDf K "_law_within" "_law_within" s_L_within (He.ga K "_law_within") fd ∧ L2.Binds K fd p_L_within [] := by
  obtain ⟨fd, F⟩ : ∃ fd, FnDf K "_law_within" "_law_within" s_L_within (He.ga K "_law_within") fd := c.d.def_ 42 (d := d_L_within) rfl
  exact ⟨fd, F, F.bindsN fun _ _ _ _ _ _ us hl => match us, hl with | [_, _], _ => rfl⟩
theorem df_L_joined_right (c : SaysK h K) : ∃ fd, FnDf K "_law_joined_right" "_law_joined_right" s_L_joined_right (He.ga K "_law_joined_right") fd ∧ L2.Binds K fd p_L_joined_right [] := by
  obtain ⟨fd, F⟩ : ∃ fd, FnDf K "_law_joined_right" "_law_joined_right" s_L_joined_right (He.ga K "_law_joined_right") fd := c.d.def_ 43 (d := d_L_joined_right) rfl
  exact ⟨fd, F, F.bindsN fun _ _ _ _ _ _ us hl => match us, hl with | [_, _, _, _], _ => rfl⟩
theorem df_L_compared_right (c : SaysK h K) : ∃ fd, FnDf K "_law_compared_right" "_law_compared_right" s_L_compared_right (He.ga K "_law_compared_right") fd ∧ L2.Binds K fd p_L_compared_right [] := by
  obtain ⟨fd, F⟩ : ∃ fd, FnDf K "_law_compared_right" "_law_compared_right" s_L_compared_right (He.ga K "_law_compared_right") fd := c.d.def_ 44 (d := d_L_compared_right) rfl
  exact ⟨fd, F, F.bindsN fun _ _ _ _ _ _ us hl => match us, hl with | [_, _, _, _], _ => rfl⟩
theorem df_L_sides_right (c : SaysK h K) : ∃ fd, FnDf K "_law_sides_right" "_law_sides_right" s_L_sides_right (He.ga K "_law_sides_right") fd ∧ L2.Binds K fd p_L_sides_right [] := by
  obtain ⟨fd, F⟩ : ∃ fd, FnDf K "_law_sides_right" "_law_sides_right" s_L_sides_right (He.ga K "_law_sides_right") fd := c.d.def_ 45 (d := d_L_sides_right) rfl
  exact ⟨fd, F, F.bindsN fun _ _ _ _ _ _ us hl => match us, hl with | [_, _, _, _], _ => rfl⟩
theorem df_L_points_right (c : SaysK h K) : ∃ fd, FnDf K "_law_points_right" "_law_points_right" s_L_points_right (He.ga K "_law_points_right") fd ∧ L2.Binds K fd p_L_points_right [] := by
  obtain ⟨fd, F⟩ : ∃ fd, FnDf K "_law_points_right" "_law_points_right" s_L_points_right (He.ga K "_law_points_right") fd := c.d.def_ 46 (d := d_L_points_right) rfl
  exact ⟨fd, F, F.bindsN fun _ _ _ _ _ _ us hl => match us, hl with | [_, _, _], _ => rfl⟩
theorem df_L_joined (c : SaysK h K) : ∃ fd, FnDf K "_law_joined" "_law_joined" s_L_joined (He.ga K "_law_joined") fd ∧ L2.Binds K fd p_L_joined [] := by
  obtain ⟨fd, F⟩ : ∃ fd, FnDf K "_law_joined" "_law_joined" s_L_joined (He.ga K "_law_joined") fd := c.d.def_ 47 (d := d_L_joined) rfl
  exact ⟨fd, F, F.bindsN fun _ _ _ _ _ _ us hl => match us, hl with | [_, _], _ => rfl⟩
theorem df_L_others_refused (c : SaysK h K) : ∃ fd, FnDf K "_law_others_refused" "_law_others_refused" s_L_others_refused (He.ga K "_law_others_refused") fd ∧ L2.Binds K fd p_L_others_refused [] := by
  obtain ⟨fd, F⟩ : ∃ fd, FnDf K "_law_others_refused" "_law_others_refused" s_L_others_refused (He.ga K "_law_others_refused") fd := c.d.def_ 48 (d := d_L_others_refused) rfl
  exact ⟨fd, F, F.bindsN fun _ _ _ _ _ _ us hl => match us, hl with | [_, _], _ => rfl⟩
theorem df_law (c : SaysK h K) : ∃ fd, FnDf K "law" "law" s_law (He.ga K "law") fd ∧ L2.Binds K fd p_law [] := by
  obtain ⟨fd, F⟩ : ∃ fd, FnDf K "law" "law" s_law (He.ga K "law") fd := c.d.def_ 49 (d := d_law) rfl
  exact ⟨fd, F, F.bindsN fun _ _ _ _ _ _ us hl => match us, hl with | [_], _ => rfl⟩
theorem df_of (c : SaysK h K) : ∃ fd, FnDf K "of" "Zone.of" s_Zone_of (ofG K) fd ∧ L2.Binds K fd p_Zone_of [] := by
  obtain ⟨fd, F⟩ := of_df c
  exact ⟨fd, F, F.bindsN fun _ _ _ _ _ _ us hl => match us, hl with | [_, _], _ => rfl⟩
theorem df_Zone_init (c : SaysK h K) : ∃ fd, ZiDf K (He.ma K (He.ga K "Zone") "__init__") fd := c.d.def_ 15 (d := d_Zone_init) rfl
/-- the law's def, over the head's facts -/
theorem chain (hP : P = PySem.Challenge.pw_anypads_k32_whole_zones_joined_and_compa) (X : K.In h) (G : h.Ns mainGlobals mg) (c : SaysK h K) (TB : TabB base mg (He.cT K ("_law_others_refused", none)).1 (He.cT K ("_law_others_refused", none)).2) :
    ∀ fd, FnDf K "law" "law" s_law (He.ga K "law") fd → FnG P w K mg base CX0 12 (He.ga K "law") fd p_law (spLaw K (He.cT K ("_law_others_refused", none)).2) := by
  intro fd FL
  have B := blt X G c
  have T := kd_ok X G c
  have Z := zn_ok c
  have Y := zg_ok X G c
  have O := zo_ok c
  have N := ns_ok X G c
  have HE := he_ok X G c
  have MK : Mk K (Cc K).kind (kiA K) := He.mkr_ok (fI c 72)
  have MZ : Mk K (Cc K).zone (He.ma K (He.ga K "Zone") "__init__") := He.mkr_ok (fI c 73)
  have G_is_whole : Fd P w K mg base (CX0) 1 "is_whole" (spWhole) := by
    obtain ⟨fd, F, b⟩ := df_is_whole c
    exact fd_of (glo X G c (by decide +kernel)) F.kp (ok_is_whole B F) b
  have G_is_between : Fd P w K mg base (CX0) 2 "is_between" (spBetween) := by
    obtain ⟨fd, F, b⟩ := df_is_between c
    exact fd_of (glo X G c (by decide +kernel)) F.kp (ok_is_between G_is_whole F) b
  have G_is_name : Fd P w K mg base (CX0) 1 "is_name" (spName) := by
    obtain ⟨fd, F, b⟩ := df_is_name c
    exact fd_of (glo X G c (by decide +kernel)) F.kp (ok_is_name B T (bar_ok X G c) F) b
  have FP : FnR P w K mg base CX0 1 (piA K) (spPI (He.ga K "Kind")) := by
    obtain ⟨fd, F, b⟩ := df_Part_init c
    exact fnr_of (ok_part_init T (pt_ok c) F) b
  have FK : FnR P w K mg base CX0 4 (kiA K) (spKI (He.ga K "Kind")) := by
    obtain ⟨oc, od, fd, osl, dV, kV, doc, pm, ct, an, cc, cda, e, lk, S, b⟩ := ki_df hP X G c
    exact fnr_of (ok_kind_init T G_is_name G_is_between S FP osl oc od dV kV doc pm ct an e lk) b
  have M_Kind_shape : Md P w K mg base (CX0) 1 (He.ga K "Kind") "shape" (spShape (He.ga K "Kind")) := by
    obtain ⟨fd, F, b⟩ := df_Kind_shape c
    exact md_of (He.meth_ok (fI c 75)) (ok_shape T F) b
  have M_Part_eq : Md P w K mg base (CX0) 2 (He.ga K "Kind") "__eq__" (spKEq (He.ga K "Kind")) := by
    obtain ⟨fd, F, b⟩ := df_Part_eq c
    exact md_of (He.meth_ok (fI c 74)) (ok_keq B T M_Kind_shape F) b
  have G_scales_of : Fd P w K mg base (CX0) 1 "scales_of" (spScales (He.ga K "Kind")) := by
    obtain ⟨fd, F, b⟩ := df_scales_of c
    exact fd_of (glo X G c (by decide +kernel)) F.kp (ok_scales_of B T F) b
  have G_need_kinds : Fd P w K mg base (CX0) 1 "need_kinds" (spKinds (He.ga K "Kind")) := by
    obtain ⟨fd, F, b⟩ := df_need_kinds c
    exact fd_of (glo X G c (by decide +kernel)) F.kp (ok_need_kinds B T F) b
  have G_own_bounds : Fd P w K mg base (CX0) 2 "own_bounds" (spOwn (He.ga K "Kind")) := by
    obtain ⟨fd, F, b⟩ := df_own_bounds c
    exact fd_of (glo X G c (by decide +kernel)) F.kp (ok_own_bounds B T G_scales_of F) b
  have G_tightened : Fd P w K mg base (CX0) 1 "tightened" (spTight) := by
    obtain ⟨fd, F, b⟩ := df_tightened c
    exact fd_of (glo X G c (by decide +kernel)) F.kp (ok_tightened F) b
  have G_closed : Fd P w K mg base (CX0) 2 "closed" (spClosed) := by
    obtain ⟨fd, F, b⟩ := df_closed c
    exact fd_of (glo X G c (by decide +kernel)) F.kp (ok_closed G_tightened F) b
  have G_free_table : Fd P w K mg base (CX0) 1 "free_table" (spFree) := by
    obtain ⟨fd, F, b⟩ := df_free_table c
    exact fd_of (glo X G c (by decide +kernel)) F.kp (ok_free_table F) b
  have G_differences : Fd P w K mg base (CX0) 1 "differences" (spDiff) := by
    obtain ⟨fd, F, b⟩ := df_differences c
    exact fd_of (glo X G c (by decide +kernel)) F.kp (ok_differences F) b
  have G_is_point : Fd P w K mg base (CX0) 2 "is_point" (spPoint) := by
    obtain ⟨fd, F, b⟩ := df_is_point c
    exact fd_of (glo X G c (by decide +kernel)) F.kp (ok_is_point B G_is_whole F) b
  obtain ⟨fdZ, FZ⟩ := df_Zone_init c
  have ZI := zi_run (P := P) (w := w) (base := base) T Z G_need_kinds G_scales_of G_own_bounds G_free_table G_closed FZ
  have OF : OfOk P w K mg base (Cc K) := by
    obtain ⟨fd, F, b⟩ := df_of c
    exact ⟨_, _, _, cread_ok (exI c.more 21), cmet_ok c, fnr_of (ok_of (C := Cc K) B MZ ZI.1 F) b⟩
  have M_Zone_need_names : Md P w K mg base (CX0) 1 (He.ga K "Zone") "need_names" (spNN (He.ga K "Kind") (He.ga K "Zone")) := by
    obtain ⟨fd, F, b⟩ := df_Zone_need_names c
    exact md_of (zmeth c (by decide +kernel)) (ok_need_names (C := Cc K) B Z F) b
  have M_Zone_bool : Md P w K mg base (CX0) 1 (He.ga K "Zone") "__bool__" (spTruth (He.ga K "Kind") (He.ga K "Zone")) := by
    obtain ⟨fd, F, b⟩ := df_Zone_bool c
    exact md_of (zmeth c (by decide +kernel)) (ok_bool (C := Cc K) Z F) b
  have M_Zone_need_point : Md P w K mg base (CX0) 1 (He.ga K "Zone") "need_point" (spNP (He.ga K "Kind") (He.ga K "Zone")) := by
    obtain ⟨fd, F, b⟩ := df_Zone_need_point c
    exact md_of (zmeth c (by decide +kernel)) (ok_need_point (C := Cc K) Z F) b
  have FB : FnR P w K mg base CX0 5 (He.ma K (He.ga K "Zone") "bounded") (spBd (He.ga K "Kind") (He.ga K "Zone")) := by
    obtain ⟨fd, F⟩ := df_Zone_bounded c
    exact ok_bounded (C := Cc K) Z Y MZ ZI.2 G_closed F
  have M_Zone_bounded : Md P w K mg base CX0 5 (He.ga K "Zone") "bounded" (spBd (He.ga K "Kind") (He.ga K "Zone")) := ⟨_, zmeth c (by decide +kernel), FB⟩
  have M_Zone_within : Md P w K mg base (CX0) 6 (He.ga K "Zone") "within" (spWithin (He.ga K "Kind") (He.ga K "Zone")) := by
    obtain ⟨fd, F, b⟩ := df_Zone_within c
    exact md_of (zmeth c (by decide +kernel)) (ok_within (C := Cc K) Z Y G_is_between M_Zone_need_names M_Zone_bounded F) b
  have M_Zone_sides : Md P w K mg base (CX0) 7 (He.ga K "Zone") "sides" (spSides (He.ga K "Kind") (He.ga K "Zone")) := by
    obtain ⟨fd, F, b⟩ := df_Zone_sides c
    exact md_of (zmeth c (by decide +kernel)) (ok_sides (C := Cc K) Z M_Zone_within M_Zone_bounded F) b
  have M_Zone_contains : Md P w K mg base (CX0) 3 (He.ga K "Zone") "__contains__" (spCon (He.ga K "Kind") (He.ga K "Zone")) := by
    obtain ⟨fd, F, b⟩ := df_Zone_contains c
    exact md_of (zmeth c (by decide +kernel)) (ok_contains (C := Cc K) B T Z Y G_is_point F) b
  have BO : BoOk P w K mg base (Cc K) := by
    obtain ⟨fd, F, b⟩ := df_Zone_bounds c
    exact ⟨_, fd, zmeth c (by decide +kernel), ok_bounds (C := Cc K) Z M_Zone_need_point G_differences F, b⟩
  have M_Zone_need_like : Md P w K mg base (L2.CX P w) 4 (He.ga K "Zone") "need_like" (spLike (He.ga K "Kind") (He.ga K "Zone") (cNs K)) := by
    obtain ⟨fd, F, b⟩ := df_Zone_need_like c
    obtain ⟨fdN, FN, bN⟩ := df_NoScale_init c
    obtain ⟨n1, n2⟩ := He.ba (exI c.more 28)
    exact md_of (zmeth c (by decide +kernel)) (ok_need_like (C := Cc K) B T Z N M_Part_eq (He.eqO_ok n1) (of_decide_eq_true n2) (ok_nsinit N FN) bN F) b
  have M_Zone_and : Md P w K mg base (L2.CX P w) 6 (He.ga K "Zone") "__and__" (spAnd (He.ga K "Kind") (He.ga K "Zone") (cNs K)) := by
    obtain ⟨fd, F, b⟩ := df_Zone_and c
    exact md_of (zmeth c (by decide +kernel)) (ok_and (C := Cc K) Z M_Zone_need_like ⟨_, bm_ok c, FB⟩ F) b
  have M_Zone_le : Md P w K mg base (L2.CX P w) 5 (He.ga K "Zone") "__le__" (spLe (He.ga K "Kind") (He.ga K "Zone") (cNs K)) := by
    obtain ⟨fd, F, b⟩ := df_Zone_le c
    exact md_of (zmeth c (by decide +kernel)) (ok_le (C := Cc K) B Z M_Zone_need_like F) b
  have M_Zone_eq : Md P w K mg base (CX0) 4 (He.ga K "Zone") "__eq__" (spZeq (He.ga K "Kind") (He.ga K "Zone")) := by
    obtain ⟨fd, F, b⟩ := df_Zone_eq c
    exact md_of (zmeth c (by decide +kernel)) (ok_zeq (C := Cc K) B T Z Y M_Part_eq F) b
  have M : ZoM P w K mg base (Cc K) (cNs K) := ⟨M_Zone_and, M_Zone_le, M_Zone_eq, M_Zone_contains, M_Zone_bool, M_Zone_sides⟩
  have G_L_pen : Fd P w K mg base (CX0) 1 "_law_pen" (spPen K) := by
    obtain ⟨fd, F, b⟩ := df_L_pen c
    exact fd_of (glo X G c (by decide +kernel)) F.kp (ok_L_pen B F) b
  have G_L_draw : Fd P w K mg base (CX0) 1 "_law_draw" (spDraw) := by
    obtain ⟨fd, F, b⟩ := df_L_draw c
    exact fd_of (glo X G c (by decide +kernel)) F.kp (ok_L_draw B F) b
  have G_L_pick : Fd P w K mg base (CX0) 2 "_law_pick" (spPick) := by
    obtain ⟨fd, F, b⟩ := df_L_pick c
    exact fd_of (glo X G c (by decide +kernel)) F.kp (ok_L_pick B G_L_draw F) b
  have G_L_names : Fd P w K mg base (CX0) 3 "_law_names" (spNames) := by
    obtain ⟨fd, F, b⟩ := df_L_names c
    exact fd_of (glo X G c (by decide +kernel)) F.kp (ok_L_names B G_L_draw G_L_pick F) b
  have G_L_kinds : Fd P w K mg base (CX0) 6 "_law_kinds" (spLKinds (He.ga K "Kind")) := by
    obtain ⟨fd, F, b⟩ := df_L_kinds c
    exact fd_of (glo X G c (by decide +kernel)) F.kp (ok_L_kinds T G_L_names G_L_pick MK FK F) b
  have G_L_scales : Fd P w K mg base (CX0) 1 "_law_scales" (spLScales (He.ga K "Kind")) := by
    obtain ⟨fd, F, b⟩ := df_L_scales c
    exact fd_of (glo X G c (by decide +kernel)) F.kp (ok_L_scales T F) b
  have G_L_own : Fd P w K mg base (CX0) 2 "_law_own" (spLOwn (He.ga K "Kind")) := by
    obtain ⟨fd, F, b⟩ := df_L_own c
    exact fd_of (glo X G c (by decide +kernel)) F.kp (ok_L_own T G_L_scales F) b
  have G_L_point : Fd P w K mg base (CX0) 2 "_law_point" (spLPoint (He.ga K "Kind")) := by
    obtain ⟨fd, F, b⟩ := df_L_point c
    exact fd_of (glo X G c (by decide +kernel)) F.kp (ok_L_point T G_L_draw F) b
  have G_L_bounds : Fd P w K mg base (CX0) 3 "_law_bounds" (spLBounds (He.ga K "Kind")) := by
    obtain ⟨fd, F, b⟩ := df_L_bounds c
    exact fd_of (glo X G c (by decide +kernel)) F.kp (ok_L_bounds B T G_L_draw G_L_pick G_L_scales G_L_point F) b
  have G_L_zone : Fd P w K mg base (CX0) 7 "_law_zone" (spLZone (He.ga K "Kind") (He.ga K "Zone")) := by
    obtain ⟨fd, F, b⟩ := df_L_zone c
    exact fd_of (glo X G c (by decide +kernel)) F.kp (ok_L_zone (C := Cc K) Y Z OF M_Zone_within F) b
  have G_L_ways : Fd P w K mg base (CX0) 1 "_law_ways" (spWays) := by
    obtain ⟨fd, F, b⟩ := df_L_ways c
    exact fd_of (glo X G c (by decide +kernel)) F.kp (ok_L_ways B F) b
  have G_L_reaching : Fd P w K mg base (CX0) 1 "_law_reaching" (spReach) := by
    obtain ⟨fd, F, b⟩ := df_L_reaching c
    exact fd_of (glo X G c (by decide +kernel)) F.kp (ok_L_reaching F) b
  have G_L_is_told : Fd P w K mg base (CX0) 8 "_law_is_told" (spTold (He.ga K "Kind") (He.ga K "Zone")) := by
    obtain ⟨fd, F, b⟩ := df_L_is_told c
    exact fd_of (glo X G c (by decide +kernel)) F.kp (ok_L_is_told (C := Cc K) B Z M_Zone_bool BO F) b
  have G_L_within : Fd P w K mg base (CX0) 1 "_law_within" (spLWithin) := by
    obtain ⟨fd, F, b⟩ := df_L_within c
    exact fd_of (glo X G c (by decide +kernel)) F.kp (ok_L_within F) b
  have G_L_joined_right : Fd P w K mg base (CX0) 9 "_law_joined_right" (spJoinedR (He.ga K "Kind") (He.ga K "Zone")) := by
    obtain ⟨fd, F, b⟩ := df_L_joined_right c
    exact fd_of (glo X G c (by decide +kernel)) F.kp (ok_L_joined_right (C := Cc K) Y O M G_L_is_told G_L_ways F) b
  have G_L_points_right : Fd P w K mg base (CX0) 8 "_law_points_right" (spPoints (He.ga K "Kind") (He.ga K "Zone")) := by
    obtain ⟨fd, F, b⟩ := df_L_points_right c
    exact fd_of (glo X G c (by decide +kernel)) F.kp (ok_L_points_right (C := Cc K) B Y O M G_L_reaching F) b
  have G_L_sides_right : Fd P w K mg base (CX0) 8 "_law_sides_right" (spSidesR (He.ga K "Kind") (He.ga K "Zone")) := by
    obtain ⟨fd, F, b⟩ := df_L_sides_right c
    exact fd_of (glo X G c (by decide +kernel)) F.kp (ok_L_sides_right (C := Cc K) B Y Z O M G_L_draw G_L_pick G_L_reaching F) b
  have G_L_joined : Fd P w K mg base (L2.CX P w) 7 "_law_joined" (spLJoin (He.ga K "Kind") (He.ga K "Zone") (cNs K)) := by
    obtain ⟨fd, F, b⟩ := df_L_joined c
    exact fd_of (glo X G c (by decide +kernel)) F.kp (ok_L_joined (C := Cc K) O M F) b
  have G_L_compared_right : FdG P w K mg base CX0 9 "_law_compared_right" (spCmp (He.ga K "Kind") (He.ga K "Zone")) := by
    obtain ⟨fd, F, b⟩ := df_L_compared_right c
    exact ⟨_, fd, _, glo X G c (by decide +kernel), F.kp, ok_L_compared_right (C := Cc K) B Y O M G_L_within F, b⟩
  have HD : HdF K mg := by
    obtain ⟨fd, F, b⟩ := df_L_heard c
    exact ⟨_, fd, glo X G c (by decide +kernel), F.kp, F, b⟩
  have G_L_others_refused : Fd P w K mg base CX0 11 "_law_others_refused" (spOthers (He.ga K "Kind") (He.ga K "Zone") (He.cT K ("_law_others_refused", none)).2) := by
    obtain ⟨fd, F, b⟩ := df_L_others_refused c
    have FC : FunC K "_law_others_refused" "_law_others_refused" (defArgs s_L_others_refused) (defBody s_L_others_refused) (defScope s_L_others_refused) (He.ga K "_law_others_refused") fd (He.cT K ("_law_others_refused", none)).1 := by
      obtain ⟨oc, od, dV, kV, doc, pm, an, cdv, ct, osl, rfl, lk, hcd, hD, hK⟩ := F.ex
      obtain ⟨cc, rfl⟩ := He.codeIn_ref hcd
      have e : He.codeOf K ("_law_others_refused", none) = cc := He.codeOf_eq (p := ("_law_others_refused", none)) lk rfl
      show FunC K _ _ _ _ _ _ _ (He.codeOf K ("_law_others_refused", none))
      rw [e]
      exact ⟨oc, od, dV, kV, doc, pm, an, ct, osl, rfl, lk, hcd⟩
    exact fd_of (glo X G c (by decide +kernel)) F.kp (ok_L_others (C := Cc K) B T Y Z O M HE OF MK FK HD G_L_joined TB FC) b
  exact ok_law (C := Cc K) B G_L_pen G_L_draw G_L_pick G_L_kinds G_L_scales G_L_own G_L_bounds G_L_zone G_L_ways G_L_joined_right G_L_points_right G_L_compared_right G_L_sides_right G_L_others_refused FL
end
end KD
set_option Elab.async false
set_option linter.all false
set_option maxRecDepth 100000
set_option maxHeartbeats 4000000
open PySem PySem.W PySem.Calls PyProof.Rows
theorem PySem.Challenge.cw_anypads_k32_whole_zones_joined_and_compa_holds : PySem.Challenge.rw_anypads_k32_whole_zones_joined_and_compa.Holds := by
  w_on; o_law
  refine HandSHeadRun.head_any (r := OpenLaw.row PySem.Challenge.rw_anypads_k32_whole_zones_joined_and_compa) (q := KH.qv) (H := KH.hk) (ob := KH.ob) (M := 20000) (loose := KH.loose) (d := HandSHeadRun.topDef (OpenLaw.row PySem.Challenge.rw_anypads_k32_whole_zones_joined_and_compa).prog 89) (kwd := []) KH.ob_eq
    (by kernel_rfl) (fun s => by kernel_rfl) KH.run (by kernel_rfl) (by kernel_rfl) (by kernel_rfl) (by rfl) (by first | assumption | decide +kernel) (by decide +kernel) ⟨rfl, rfl, rfl, rfl, rfl, by decide +kernel⟩ ?hw ?hc
  case hw => w_witness2
  case hc =>
    refine KR.walk_ofG (l := PySem.Challenge.rw_anypads_k32_whole_zones_joined_and_compa) (n := 63) (k := 12) (x := "_law_script") rfl (by decide) (by kernel_rfl) ⟨rfl, by decide, by decide⟩ ?F
    intro w mg fa h YP gN hmg0
    obtain ⟨K, KX, c⟩ := YP
    have hmg : mg ("law" : PySem.Str) = some (.ref fa) := by
      have e : (HandSHeadRun.topDef (OpenLaw.row PySem.Challenge.rw_anypads_k32_whole_zones_joined_and_compa).prog 89).name = ("law" : PySem.Str) := by kernel_rfl
      rw [← e]
      exact hmg0
    have e := hmg.symm.trans (KD.glo KX gN c (x := "law") (by decide +kernel))
    cases e
    obtain ⟨fd, F, b⟩ := KD.df_law c
    have hb := F.bindsA (ps := KT.p_law) fun _ _ _ _ _ _ us hl => match us, hl with | [_], _ => rfl
    refine ⟨K, KX, fd, _, _, KD.spLaw K (He.cT K ("_law_others_refused", none)).2, c.empty, c.out, PySem.W.codeHd_of_K KX c.hd, fun s u => hb s [u] rfl, fun H a ns _ hT hS => ⟨a, ns, rfl, hS, fun p hp => ?_, fun _ => rfl⟩, fun base _ _ TB => ?_⟩
    · obtain rfl := List.mem_singleton.mp hp
      exact LamX.TabS.nil hT
    · exact KD.chain rfl KX gN c TB fd F
