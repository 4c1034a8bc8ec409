import PyProof.Rows.All
import Wide.All
import OpenK.AllK
import Wide.FinOn
import KE.KStateDown
import HandS.ForMost
import HandS.More
import HandS.Defaults
import HandS.Head0
import HandS.Head1
import HandS.Head2
import HandS.HeadEnd
import HandS.HeadHook1
import HandS.HeadHook2
import HandS.HeadHook3
import HandS.HeadHook4
import KE.KDictKeyed
import KE.KDictLaw
import HandS.TupAny
import HandS.Style
import HandS.Star
import HandS.Wide
import HandS.IsInst
import HandS.Conv
import KE.KTupSum
import HandS.Zip
import HandS.Iter
import HandS.Comp
import HandS.Sort
import HandS.List
import HandS.ListItems
import KE.KDictZip
import HandS.DictComp
import KE.KDictDisplayH
import PySem.Challenge.RW_weirlines_k65_whole_more_ahead
set_option Elab.async false
set_option linter.all false
set_option maxRecDepth 100000
set_option maxHeartbeats 4000000
namespace WL
open PySem PySem.Spec PyProof.Rows L2
def top (i : Nat) : Stmt := PySem.Challenge.pw_weirlines_k65_whole_more_ahead.main.body.getD i (.Pass ⟨0, 0, 0, 0⟩)
abbrev s_is_whole : Stmt := top 13
abbrev s_common : Stmt := top 14
abbrev s_part : Stmt := top 15
abbrev s_is_part : Stmt := top 16
abbrev s_as_part : Stmt := top 17
abbrev s_plus : Stmt := top 18
abbrev s_minus : Stmt := top 19
abbrev s_times : Stmt := top 20
abbrev s_over : Stmt := top 21
abbrev s_is_less : Stmt := top 22
abbrev s_greatest : Stmt := top 23
abbrev s_least : Stmt := top 24
abbrev s_total : Stmt := top 25
abbrev s_stretches : Stmt := top 27
abbrev s_stretch_of : Stmt := top 28
abbrev s_on_line : Stmt := top 29
abbrev s_points_of : Stmt := top 30
abbrev s_corners : Stmt := top 31
abbrev s_is_flat : Stmt := top 32
abbrev s_edge_at : Stmt := top 33
abbrev s_is_areas : Stmt := top 38
abbrev s_Row___init__ : Stmt := inClass (top 39) 0
abbrev s_Row___len__ : Stmt := inClass (top 39) 2
abbrev s_Row___contains__ : Stmt := inClass (top 39) 5
abbrev s_Row_weirs : Stmt := inClass (top 39) 6
abbrev s_Row_sums : Stmt := inClass (top 39) 8
abbrev s_Row_reaches : Stmt := inClass (top 39) 9
abbrev s_Row_check_weir : Stmt := inClass (top 39) 10
abbrev s_Row_with_volumes : Stmt := inClass (top 39) 11
abbrev s_Row_opened : Stmt := inClass (top 39) 12
abbrev s_check_row : Stmt := top 40
abbrev s_check_order : Stmt := top 41
abbrev s_behind : Stmt := top 42
abbrev s_check_place : Stmt := top 44
abbrev s_Edge___init__ : Stmt := inClass (top 45) 1
abbrev s_highest : Stmt := top 48
abbrev s_lowest : Stmt := top 49
abbrev s_some_of : Stmt := top 51
abbrev s_locked : Stmt := top 52
abbrev s_check_number : Stmt := top 53
abbrev s_holds : Stmt := top 54
abbrev s_Guard___init__ : Stmt := inClass (top 55) 1
abbrev s_check_choices : Stmt := top 56
abbrev s_fewer_than : Stmt := top 57
abbrev s_guards : Stmt := top 58
abbrev s_runs : Stmt := top 60
abbrev s_limit : Stmt := top 61
abbrev s_check_many : Stmt := top 65
abbrev s_layers : Stmt := top 66
abbrev s_evened : Stmt := top 67
abbrev s_worth : Stmt := top 68
abbrev s_Best___init__ : Stmt := inClass (top 69) 1
abbrev s_best : Stmt := top 70
abbrev s_poured : Stmt := top 72
abbrev s_Coast___init__ : Stmt := inClass (top 74) 0
abbrev s_Coast___contains__ : Stmt := inClass (top 74) 2
abbrev s_Coast_opened : Stmt := inClass (top 74) 3
abbrev s_check_coast : Stmt := top 75
abbrev s_check_coast_order : Stmt := top 76
abbrev s_after : Stmt := top 77
abbrev s_with_volumes : Stmt := top 78
abbrev s_rounds_map : Stmt := top 79
abbrev s_solved : Stmt := top 80
abbrev s_is_washed : Stmt := top 81
abbrev s_Cycle___init__ : Stmt := inClass (top 82) 1
abbrev s_check_washed : Stmt := top 83
abbrev s_inflow : Stmt := top 84
abbrev s_cycle : Stmt := top 85
abbrev s_sea_line : Stmt := top 86
abbrev s_far_bounds : Stmt := top 87
abbrev s_bent : Stmt := top 88
abbrev s__law_number : Stmt := top 90
abbrev s__law_take : Stmt := top 91
abbrev s__law_pick : Stmt := top 92
abbrev s__law_common : Stmt := top 93
abbrev s__law_part : Stmt := top 94
abbrev s__law_plus : Stmt := top 95
abbrev s__law_less : Stmt := top 96
abbrev s__law_times : Stmt := top 97
abbrev s__law_minus : Stmt := top 98
abbrev s__law_drawn : Stmt := top 99
abbrev s__law_parts_of : Stmt := top 100
abbrev s__law_sums : Stmt := top 101
abbrev s__law_order : Stmt := top 102
abbrev s__law_taken : Stmt := top 103
abbrev s__law_is_over : Stmt := top 104
abbrev s__law_seas_right : Stmt := top 105
abbrev s_law : Stmt := top 106
end WL
set_option Elab.async false
set_option linter.all false
set_option maxRecDepth 100000
set_option maxHeartbeats 0
namespace WL
open PySem PySem.Spec PyProof.Rows L2
def d_is_whole : He.DefD := ⟨("is_whole", none), "is_whole", "is_whole", defArgs s_is_whole, defBody s_is_whole, defScope s_is_whole, [], []⟩
def d_common : He.DefD := ⟨("common", none), "common", "common", defArgs s_common, defBody s_common, defScope s_common, [], []⟩
def d_part : He.DefD := ⟨("part", none), "part", "part", defArgs s_part, defBody s_part, defScope s_part, [.int 1], []⟩
def d_is_part : He.DefD := ⟨("is_part", none), "is_part", "is_part", defArgs s_is_part, defBody s_is_part, defScope s_is_part, [], []⟩
def d_as_part : He.DefD := ⟨("as_part", none), "as_part", "as_part", defArgs s_as_part, defBody s_as_part, defScope s_as_part, [], []⟩
def d_plus : He.DefD := ⟨("plus", none), "plus", "plus", defArgs s_plus, defBody s_plus, defScope s_plus, [], []⟩
def d_minus : He.DefD := ⟨("minus", none), "minus", "minus", defArgs s_minus, defBody s_minus, defScope s_minus, [], []⟩
def d_times : He.DefD := ⟨("times", none), "times", "times", defArgs s_times, defBody s_times, defScope s_times, [], []⟩
def d_over : He.DefD := ⟨("over", none), "over", "over", defArgs s_over, defBody s_over, defScope s_over, [], []⟩
def d_is_less : He.DefD := ⟨("is_less", none), "is_less", "is_less", defArgs s_is_less, defBody s_is_less, defScope s_is_less, [], []⟩
def d_greatest : He.DefD := ⟨("greatest", none), "greatest", "greatest", defArgs s_greatest, defBody s_greatest, defScope s_greatest, [], []⟩
def d_least : He.DefD := ⟨("least", none), "least", "least", defArgs s_least, defBody s_least, defScope s_least, [], []⟩
def d_total : He.DefD := ⟨("total", none), "total", "total", defArgs s_total, defBody s_total, defScope s_total, [], []⟩
def d_stretches : He.DefD := ⟨("stretches", none), "stretches", "stretches", defArgs s_stretches, defBody s_stretches, defScope s_stretches, [], []⟩
def d_stretch_of : He.DefD := ⟨("stretch_of", none), "stretch_of", "stretch_of", defArgs s_stretch_of, defBody s_stretch_of, defScope s_stretch_of, [], []⟩
def d_on_line : He.DefD := ⟨("on_line", none), "on_line", "on_line", defArgs s_on_line, defBody s_on_line, defScope s_on_line, [], []⟩
def d_points_of : He.DefD := ⟨("points_of", none), "points_of", "points_of", defArgs s_points_of, defBody s_points_of, defScope s_points_of, [], []⟩
def d_corners : He.DefD := ⟨("corners", none), "corners", "corners", defArgs s_corners, defBody s_corners, defScope s_corners, [], []⟩
def d_is_flat : He.DefD := ⟨("is_flat", none), "is_flat", "is_flat", defArgs s_is_flat, defBody s_is_flat, defScope s_is_flat, [], []⟩
def d_edge_at : He.DefD := ⟨("edge_at", none), "edge_at", "edge_at", defArgs s_edge_at, defBody s_edge_at, defScope s_edge_at, [], []⟩
def d_is_areas : He.DefD := ⟨("is_areas", none), "is_areas", "is_areas", defArgs s_is_areas, defBody s_is_areas, defScope s_is_areas, [], []⟩
def d_Row___init__ : He.DefD := ⟨("Row", some "__init__"), "__init__", "Row.__init__", defArgs s_Row___init__, defBody s_Row___init__, defScope s_Row___init__, [.adr (He.dflAt ("Row", some "__init__") 0)], []⟩
def d_Row___len__ : He.DefD := ⟨("Row", some "__len__"), "__len__", "Row.__len__", defArgs s_Row___len__, defBody s_Row___len__, defScope s_Row___len__, [], []⟩
def d_Row___contains__ : He.DefD := ⟨("Row", some "__contains__"), "__contains__", "Row.__contains__", defArgs s_Row___contains__, defBody s_Row___contains__, defScope s_Row___contains__, [], []⟩
def d_Row_weirs : He.DefD := ⟨("Row", some "weirs"), "weirs", "Row.weirs", defArgs s_Row_weirs, defBody s_Row_weirs, defScope s_Row_weirs, [], []⟩
def d_Row_sums : He.DefD := ⟨("Row", some "sums"), "sums", "Row.sums", defArgs s_Row_sums, defBody s_Row_sums, defScope s_Row_sums, [], []⟩
def d_Row_reaches : He.DefD := ⟨("Row", some "reaches"), "reaches", "Row.reaches", defArgs s_Row_reaches, defBody s_Row_reaches, defScope s_Row_reaches, [], []⟩
def d_Row_check_weir : He.DefD := ⟨("Row", some "check_weir"), "check_weir", "Row.check_weir", defArgs s_Row_check_weir, defBody s_Row_check_weir, defScope s_Row_check_weir, [], []⟩
def d_Row_with_volumes : He.DefD := ⟨("Row", some "with_volumes"), "with_volumes", "Row.with_volumes", defArgs s_Row_with_volumes, defBody s_Row_with_volumes, defScope s_Row_with_volumes, [], []⟩
def d_Row_opened : He.DefD := ⟨("Row", some "opened"), "opened", "Row.opened", defArgs s_Row_opened, defBody s_Row_opened, defScope s_Row_opened, [.adr (He.dflAt ("Row", some "opened") 0)], []⟩
def d_check_row : He.DefD := ⟨("check_row", none), "check_row", "check_row", defArgs s_check_row, defBody s_check_row, defScope s_check_row, [], []⟩
def d_check_order : He.DefD := ⟨("check_order", none), "check_order", "check_order", defArgs s_check_order, defBody s_check_order, defScope s_check_order, [], []⟩
def d_behind : He.DefD := ⟨("behind", none), "behind", "behind", defArgs s_behind, defBody s_behind, defScope s_behind, [], []⟩
def d_check_place : He.DefD := ⟨("check_place", none), "check_place", "check_place", defArgs s_check_place, defBody s_check_place, defScope s_check_place, [], []⟩
def d_Edge___init__ : He.DefD := ⟨("Edge", some "__init__"), "__init__", "Edge.__init__", defArgs s_Edge___init__, defBody s_Edge___init__, defScope s_Edge___init__, [], []⟩
def d_highest : He.DefD := ⟨("highest", none), "highest", "highest", defArgs s_highest, defBody s_highest, defScope s_highest, [], []⟩
def d_lowest : He.DefD := ⟨("lowest", none), "lowest", "lowest", defArgs s_lowest, defBody s_lowest, defScope s_lowest, [], []⟩
def d_some_of : He.DefD := ⟨("some_of", none), "some_of", "some_of", defArgs s_some_of, defBody s_some_of, defScope s_some_of, [], []⟩
def d_locked : He.DefD := ⟨("locked", none), "locked", "locked", defArgs s_locked, defBody s_locked, defScope s_locked, [], []⟩
def d_check_number : He.DefD := ⟨("check_number", none), "check_number", "check_number", defArgs s_check_number, defBody s_check_number, defScope s_check_number, [], []⟩
def d_holds : He.DefD := ⟨("holds", none), "holds", "holds", defArgs s_holds, defBody s_holds, defScope s_holds, [], []⟩
def d_Guard___init__ : He.DefD := ⟨("Guard", some "__init__"), "__init__", "Guard.__init__", defArgs s_Guard___init__, defBody s_Guard___init__, defScope s_Guard___init__, [], []⟩
def d_check_choices : He.DefD := ⟨("check_choices", none), "check_choices", "check_choices", defArgs s_check_choices, defBody s_check_choices, defScope s_check_choices, [], []⟩
def d_fewer_than : He.DefD := ⟨("fewer_than", none), "fewer_than", "fewer_than", defArgs s_fewer_than, defBody s_fewer_than, defScope s_fewer_than, [], []⟩
def d_guards : He.DefD := ⟨("guards", none), "guards", "guards", defArgs s_guards, defBody s_guards, defScope s_guards, [], []⟩
def d_runs : He.DefD := ⟨("runs", none), "runs", "runs", defArgs s_runs, defBody s_runs, defScope s_runs, [], []⟩
def d_limit : He.DefD := ⟨("limit", none), "limit", "limit", defArgs s_limit, defBody s_limit, defScope s_limit, [], []⟩
def d_check_many : He.DefD := ⟨("check_many", none), "check_many", "check_many", defArgs s_check_many, defBody s_check_many, defScope s_check_many, [], []⟩
def d_layers : He.DefD := ⟨("layers", none), "layers", "layers", defArgs s_layers, defBody s_layers, defScope s_layers, [], []⟩
def d_evened : He.DefD := ⟨("evened", none), "evened", "evened", defArgs s_evened, defBody s_evened, defScope s_evened, [], []⟩
def d_worth : He.DefD := ⟨("worth", none), "worth", "worth", defArgs s_worth, defBody s_worth, defScope s_worth, [], []⟩
def d_Best___init__ : He.DefD := ⟨("Best", some "__init__"), "__init__", "Best.__init__", defArgs s_Best___init__, defBody s_Best___init__, defScope s_Best___init__, [], []⟩
def d_best : He.DefD := ⟨("best", none), "best", "best", defArgs s_best, defBody s_best, defScope s_best, [], []⟩
def d_poured : He.DefD := ⟨("poured", none), "poured", "poured", defArgs s_poured, defBody s_poured, defScope s_poured, [], []⟩
def d_Coast___init__ : He.DefD := ⟨("Coast", some "__init__"), "__init__", "Coast.__init__", defArgs s_Coast___init__, defBody s_Coast___init__, defScope s_Coast___init__, [.non, .non], []⟩
def d_Coast___contains__ : He.DefD := ⟨("Coast", some "__contains__"), "__contains__", "Coast.__contains__", defArgs s_Coast___contains__, defBody s_Coast___contains__, defScope s_Coast___contains__, [], []⟩
def d_Coast_opened : He.DefD := ⟨("Coast", some "opened"), "opened", "Coast.opened", defArgs s_Coast_opened, defBody s_Coast_opened, defScope s_Coast_opened, [], []⟩
def d_check_coast : He.DefD := ⟨("check_coast", none), "check_coast", "check_coast", defArgs s_check_coast, defBody s_check_coast, defScope s_check_coast, [], []⟩
def d_check_coast_order : He.DefD := ⟨("check_coast_order", none), "check_coast_order", "check_coast_order", defArgs s_check_coast_order, defBody s_check_coast_order, defScope s_check_coast_order, [], []⟩
def d_after : He.DefD := ⟨("after", none), "after", "after", defArgs s_after, defBody s_after, defScope s_after, [], []⟩
def d_with_volumes : He.DefD := ⟨("with_volumes", none), "with_volumes", "with_volumes", defArgs s_with_volumes, defBody s_with_volumes, defScope s_with_volumes, [], []⟩
def d_rounds_map : He.DefD := ⟨("rounds_map", none), "rounds_map", "rounds_map", defArgs s_rounds_map, defBody s_rounds_map, defScope s_rounds_map, [], []⟩
def d_solved : He.DefD := ⟨("solved", none), "solved", "solved", defArgs s_solved, defBody s_solved, defScope s_solved, [], []⟩
def d_is_washed : He.DefD := ⟨("is_washed", none), "is_washed", "is_washed", defArgs s_is_washed, defBody s_is_washed, defScope s_is_washed, [], []⟩
def d_Cycle___init__ : He.DefD := ⟨("Cycle", some "__init__"), "__init__", "Cycle.__init__", defArgs s_Cycle___init__, defBody s_Cycle___init__, defScope s_Cycle___init__, [], []⟩
def d_check_washed : He.DefD := ⟨("check_washed", none), "check_washed", "check_washed", defArgs s_check_washed, defBody s_check_washed, defScope s_check_washed, [], []⟩
def d_inflow : He.DefD := ⟨("inflow", none), "inflow", "inflow", defArgs s_inflow, defBody s_inflow, defScope s_inflow, [], []⟩
def d_cycle : He.DefD := ⟨("cycle", none), "cycle", "cycle", defArgs s_cycle, defBody s_cycle, defScope s_cycle, [], []⟩
def d_sea_line : He.DefD := ⟨("sea_line", none), "sea_line", "sea_line", defArgs s_sea_line, defBody s_sea_line, defScope s_sea_line, [], []⟩
def d_far_bounds : He.DefD := ⟨("far_bounds", none), "far_bounds", "far_bounds", defArgs s_far_bounds, defBody s_far_bounds, defScope s_far_bounds, [], []⟩
def d_bent : He.DefD := ⟨("bent", none), "bent", "bent", defArgs s_bent, defBody s_bent, defScope s_bent, [], []⟩
def d__law_number : He.DefD := ⟨("_law_number", none), "_law_number", "_law_number", defArgs s__law_number, defBody s__law_number, defScope s__law_number, [], []⟩
def d__law_take : He.DefD := ⟨("_law_take", none), "_law_take", "_law_take", defArgs s__law_take, defBody s__law_take, defScope s__law_take, [], []⟩
def d__law_pick : He.DefD := ⟨("_law_pick", none), "_law_pick", "_law_pick", defArgs s__law_pick, defBody s__law_pick, defScope s__law_pick, [], []⟩
def d__law_common : He.DefD := ⟨("_law_common", none), "_law_common", "_law_common", defArgs s__law_common, defBody s__law_common, defScope s__law_common, [], []⟩
def d__law_part : He.DefD := ⟨("_law_part", none), "_law_part", "_law_part", defArgs s__law_part, defBody s__law_part, defScope s__law_part, [], []⟩
def d__law_plus : He.DefD := ⟨("_law_plus", none), "_law_plus", "_law_plus", defArgs s__law_plus, defBody s__law_plus, defScope s__law_plus, [], []⟩
def d__law_less : He.DefD := ⟨("_law_less", none), "_law_less", "_law_less", defArgs s__law_less, defBody s__law_less, defScope s__law_less, [], []⟩
def d__law_times : He.DefD := ⟨("_law_times", none), "_law_times", "_law_times", defArgs s__law_times, defBody s__law_times, defScope s__law_times, [], []⟩
def d__law_minus : He.DefD := ⟨("_law_minus", none), "_law_minus", "_law_minus", defArgs s__law_minus, defBody s__law_minus, defScope s__law_minus, [], []⟩
def d__law_drawn : He.DefD := ⟨("_law_drawn", none), "_law_drawn", "_law_drawn", defArgs s__law_drawn, defBody s__law_drawn, defScope s__law_drawn, [], []⟩
def d__law_parts_of : He.DefD := ⟨("_law_parts_of", none), "_law_parts_of", "_law_parts_of", defArgs s__law_parts_of, defBody s__law_parts_of, defScope s__law_parts_of, [], []⟩
def d__law_sums : He.DefD := ⟨("_law_sums", none), "_law_sums", "_law_sums", defArgs s__law_sums, defBody s__law_sums, defScope s__law_sums, [], []⟩
def d__law_order : He.DefD := ⟨("_law_order", none), "_law_order", "_law_order", defArgs s__law_order, defBody s__law_order, defScope s__law_order, [], []⟩
def d__law_taken : He.DefD := ⟨("_law_taken", none), "_law_taken", "_law_taken", defArgs s__law_taken, defBody s__law_taken, defScope s__law_taken, [], []⟩
def d__law_is_over : He.DefD := ⟨("_law_is_over", none), "_law_is_over", "_law_is_over", defArgs s__law_is_over, defBody s__law_is_over, defScope s__law_is_over, [], []⟩
def d__law_seas_right : He.DefD := ⟨("_law_seas_right", none), "_law_seas_right", "_law_seas_right", defArgs s__law_seas_right, defBody s__law_seas_right, defScope s__law_seas_right, [], []⟩
def d_law : He.DefD := ⟨("law", none), "law", "law", defArgs s_law, defBody s_law, defScope s_law, [], []⟩
def fn0 : List He.DefD := [d_is_whole, d_common, d_part, d_is_part, d_as_part, d_plus, d_minus, d_times, d_over, d_is_less, d_greatest, d_least, d_total, d_stretches, d_stretch_of, d_on_line, d_points_of, d_corners, d_is_flat, d_edge_at]
def fn1 : List He.DefD := [d_is_areas, d_Row___init__, d_Row___len__, d_Row___contains__, d_Row_weirs, d_Row_sums, d_Row_reaches, d_Row_check_weir, d_Row_with_volumes, d_Row_opened, d_check_row, d_check_order, d_behind, d_check_place, d_Edge___init__, d_highest, d_lowest, d_some_of, d_locked, d_check_number]
def fn2 : List He.DefD := [d_holds, d_Guard___init__, d_check_choices, d_fewer_than, d_guards, d_runs, d_limit, d_check_many, d_layers, d_evened, d_worth, d_Best___init__, d_best, d_poured, d_Coast___init__, d_Coast___contains__, d_Coast_opened, d_check_coast, d_check_coast_order, d_after]
def fn3 : List He.DefD := [d_with_volumes, d_rounds_map, d_solved, d_is_washed, d_Cycle___init__, d_check_washed, d_inflow, d_cycle, d_sea_line, d_far_bounds, d_bent, d__law_number, d__law_take, d__law_pick, d__law_common, d__law_part, d__law_plus, d__law_less, d__law_times, d__law_minus]
def fn4 : List He.DefD := [d__law_drawn, d__law_parts_of, d__law_sums, d__law_order, d__law_taken, d__law_is_over, d__law_seas_right, d_law]
def fn : List He.DefD := fn0 ++ fn1 ++ fn2 ++ fn3 ++ fn4
def fa0 : List He.Fa := [.glo "is_whole", .glo "common", .glo "part", .glo "is_part", .glo "as_part", .glo "plus", .glo "minus", .glo "times", .glo "over", .glo "is_less", .glo "greatest", .glo "least", .glo "total", .glo "stretches", .glo "stretch_of", .glo "on_line", .glo "points_of", .glo "corners", .glo "is_flat", .glo "edge_at", .glo "is_areas", .glo "check_row", .glo "check_order", .glo "behind", .glo "check_place"]
def fa1 : List He.Fa := [.glo "highest", .glo "lowest", .glo "some_of", .glo "locked", .glo "check_number", .glo "holds", .glo "check_choices", .glo "fewer_than", .glo "guards", .glo "runs", .glo "limit", .glo "check_many", .glo "layers", .glo "evened", .glo "worth", .glo "best", .glo "poured", .glo "check_coast", .glo "check_coast_order", .glo "after", .glo "with_volumes", .glo "rounds_map", .glo "solved", .glo "is_washed", .glo "check_washed"]
def fa2 : List He.Fa := [.glo "inflow", .glo "cycle", .glo "sea_line", .glo "far_bounds", .glo "bent", .glo "_law_number", .glo "_law_take", .glo "_law_pick", .glo "_law_common", .glo "_law_part", .glo "_law_plus", .glo "_law_less", .glo "_law_times", .glo "_law_minus", .glo "_law_drawn", .glo "_law_parts_of", .glo "_law_sums", .glo "_law_order", .glo "_law_taken", .glo "_law_is_over", .glo "_law_seas_right", .glo "law", .glo "Row", .cls "Row", .mkr "Row"]
def fa3 : List He.Fa := [.keep "Row", .noat "Row" "areas", .noat "Row" "volumes", .noat "Row" "locks", .meth "Row" "__len__", .meth "Row" "__contains__", .meth "Row" "weirs", .meth "Row" "sums", .meth "Row" "reaches", .meth "Row" "check_weir", .meth "Row" "with_volumes", .meth "Row" "opened", .glo "High", .cls "High", .mkr "High", .keep "High", .noat "High" "number", .noat "High" "one", .noat "High" "other", .glo "Low", .cls "Low", .mkr "Low", .keep "Low", .noat "Low" "number", .noat "Low" "one"]
def fa4 : List He.Fa := [.noat "Low" "other", .glo "Guard", .cls "Guard", .mkr "Guard", .keep "Guard", .noat "Guard" "locks", .noat "Guard" "against", .glo "Best", .cls "Best", .mkr "Best", .keep "Best", .noat "Best" "number", .noat "Best" "order", .glo "Coast", .cls "Coast", .mkr "Coast", .keep "Coast", .noat "Coast" "row", .noat "Coast" "left", .noat "Coast" "right", .meth "Coast" "__contains__", .meth "Coast" "opened", .glo "Cycle", .cls "Cycle", .mkr "Cycle"]
def fa5 : List He.Fa := [.keep "Cycle", .noat "Cycle" "volumes", .noat "Cycle" "flow", .free "isinstance", .free "int", .free "bool", .free "tuple", .free "list", .free "abs", .free "len", .free "zip", .free "range", .free "all", .free "any", .free "sorted", .free "sum", .free "min", .free "enumerate", .free "dict", .int "MOST_BASINS" 24, .int "MOST_AREA" 1000, .int "MOST_ORDER" 20000, .int "MOST_DEEDS" 8, .int "MOST_SHARES" 4000]
def fa : List He.Fa := fa0 ++ fa1 ++ fa2 ++ fa3 ++ fa4 ++ fa5
def lo0 : List PySem.Str := ["_wall", "__name__", "WeirError", "BadRow", "BadWeir", "BadOrder", "BadNumber", "NoOrder", "TooLarge", "Evidence", "Good", "is_whole", "common", "part", "is_part", "as_part", "plus", "minus", "times", "over", "is_less", "greatest", "least", "total", "stretches", "stretch_of", "on_line", "points_of", "corners", "is_flat"]
def lo1 : List PySem.Str := ["edge_at", "MOST_BASINS", "MOST_AREA", "MOST_ORDER", "is_areas", "Row", "check_row", "check_order", "behind", "check_place", "Edge", "High", "Low", "highest", "lowest", "some_of", "locked", "check_number", "holds", "Guard", "check_choices", "fewer_than", "guards", "runs", "limit", "MOST_DEEDS", "MOST_SHARES", "check_many", "layers", "evened"]
def lo2 : List PySem.Str := ["worth", "Best", "best", "poured", "Coast", "check_coast", "check_coast_order", "after", "with_volumes", "rounds_map", "solved", "is_washed", "Cycle", "check_washed", "inflow", "cycle", "sea_line", "far_bounds", "bent", "_law_number", "_law_take", "_law_pick", "_law_common", "_law_part", "_law_plus", "_law_less", "_law_times", "_law_minus", "_law_drawn", "_law_parts_of"]
def lo3 : List PySem.Str := ["_law_sums", "_law_order", "_law_taken", "_law_is_over", "_law_seas_right"]
def loose : List PySem.Str := lo0 ++ lo1 ++ lo2 ++ lo3
def tupAtB (K : PySem.W.Frag) (a : Addr) (vs : List V) : Bool := match K.lookup a with
  | some ⟨.type c, _, .seq its _, _⟩ => decide (c = "tuple") && (decide (its.size ≤ sizeLine) && He.relAll vs its.toList)
  | _ => false
def insB (K : PySem.W.Frag) (C : Addr) : Bool := He.eqO (PySem.W.findIn K (.ref C) "__class__") (some (some (.builtin "object.__class__"))) && (He.eqO (PySem.W.specialIn K (.builtin "object.__class__") "__get__") (some (some (.builtin "getset_descriptor.__get__"))) && (decide (PySem.W.takesIn K (.builtin "object.__class__") = some true) && decide (PySem.W.mroIn K C (.type "object") = some true)))
def kitS (K : PySem.W.Frag) (C : Addr) : Bool := decide (PySem.W.kitOne K (.ref C) (.ref C) = some true)
def exB (K : PySem.W.Frag) : Bool := tupAtB K (He.dflAt ("Row", some "__init__") 0 K) [] && (tupAtB K (He.dflAt ("Row", some "opened") 0 K) [.int 1, .int 1] && (insB K (He.ga K "Row") && (insB K (He.ga K "Coast") && (kitS K (He.ga K "Row") && (kitS K (He.ga K "Coast") && (decide (He.ma K (He.ga K "High") "__init__" = He.ma K (He.ga K "Edge") "__init__") && decide (He.ma K (He.ga K "Low") "__init__" = He.ma K (He.ga K "Edge") "__init__")))))))
abbrev R : PySem.W.OpenRow := PySem.W.OpenLaw.row PySem.Challenge.rw_weirlines_k65_whole_more_ahead
/-- what the module's names reach: each step takes the last one's finds on, and looks for no doubles -/
def grE (g : Addr → Option Obj) (fr : List Addr) : List Addr := fr.flatMap fun a => match g a with
  | some o => He.refsD o
  | none => []
def asE (g : Addr → Option Obj) : Nat → List Addr → List Addr
  | 0, fr => fr
  | n + 1, fr => fr ++ asE g n (grE g fr)
/-- a list, its numbers made first -/
def frL {α : Type} : List Addr → (List Addr → α) → α
  | [], k => k []
  | a :: r, k => HandSHeadRun.frNat a fun a => frL r fun r => k (a :: r)
theorem frL_eq {α : Type} : ∀ (l : List Addr) (k : List Addr → α), frL l k = k l
  | [], _ => rfl
  | a :: r, k => by rw [frL, HandSHeadRun.frNat_eq, frL_eq r]
abbrev AlY : Type := He.AlT × Bool
def obsK (K : PySem.W.Frag) : AlY := (He.obsT fa fn [] K, exB K)
def obsY (g : Addr → Option Obj) : AlY := frL (asE g 5 [mainGlobals]) fun as => obsK (He.frT g as)
theorem says_of {w : World} {h : Heap} (e : obsY h.get? = (He.valT fn [] w, true)) : He.SaysX fa fn [] [] exB w h (He.frT h.get? (asE h.get? 5 [mainGlobals])) := by
  unfold obsY at e
  rw [frL_eq] at e
  exact ⟨congrArg (fun z : AlY => z.1) e, congrArg (fun z : AlY => z.2) e, (fun p hp => by cases hp), (fun p hp => by cases hp), (fun p hp => by cases hp)⟩
def hk : PySem.W.Hook where
  α := AlY
  obs := fun s => obsY s.heap.get?
  val := fun w => (He.valT fn [] w, true)
  says := fun w h => ∃ K : PySem.W.Frag, K.In h ∧ He.SaysX fa fn [] [] exB w h K
  of := fun _ _ e => ⟨_, He.frT_in, says_of e⟩
  keeps := fun _ _ _ ⟨K, hK, c⟩ k => ⟨K, PySem.W.Frag.In.keeps hK k, ⟨c.t, c.more, c.hd, c.out, fun p hp => k _ _ (c.empty p hp)⟩⟩
def ob (s : PySem.W.SharedT) : AlY := obsY (HandSHeadRun.getT s)
theorem ob_eq (s : PySem.W.SharedT) : ob s = hk.obs s.abs := by
  have e : HandSHeadRun.getT s = s.abs.heap.get? := funext (HandSHeadRun.getT_eq s)
  show obsY (HandSHeadRun.getT s) = obsY s.abs.heap.get?
  rw [e]
abbrev qv : Program := PySem.W.view R.prog [106]
/-! the run, thrice, for less memory each time -/
noncomputable abbrev endS (w : World) (os : OsState) : Option PySem.W.SharedT := HandSHeadRun.endF (HandSHeadRun.stepQ (HandSHeadRun.denQ HandSHeadRun.tabQ) R.prog w) 30000 R.prog w os
abbrev asS (s : PySem.W.SharedT) : List Addr := asE (HandSHeadRun.getT s) 5 [mainGlobals]
def oW (s : PySem.W.SharedT) : List He.FnW := frL (asS s) fun as => fn.map fun d => He.fnW (He.frT (HandSHeadRun.getT s) as) d.at_
def oA (s : PySem.W.SharedT) : Bool := frL (asS s) fun as => (fa.all fun f => f.ok (He.frT (HandSHeadRun.getT s) as)) && exB (He.frT (HandSHeadRun.getT s) as)
def oD (s : PySem.W.SharedT) : Bool := frL (asS s) fun as => fn.all fun d => d.ok (He.frT (HandSHeadRun.getT s) as)
theorem runA (w : World) (os : OsState) : (endS w os).map (fun s => (HandSHeadRun.looksF R.prog (PySem.W.boot_heap w.params) s.abs, HandSHeadRun.seenQ qv loose (importedModules R.prog.main.body) (fun s => PySem.W.xlAt qv [] s && PySem.W.recOk R.toRowW.records s) s.abs, oW s)) = some (true, PySem.W.openGood qv loose, fn.map He.DefD.val) := by
  kernel_rfl
theorem runB (w : World) (os : OsState) : (endS w os).map oA = some true := by
  kernel_rfl
theorem runC (w : World) (os : OsState) : (endS w os).map oD = some true := by
  kernel_rfl
theorem run (w : World) : HandSHeadRun.RunEq R qv hk ob 30000 loose w := by
  intro os
  have a := runA w os
  have b := runB w os
  have c := runC w os
  generalize hz : endS w os = z at a b c
  cases z with
  | none => cases b
  | some s =>
    obtain ⟨a1, a23⟩ := Prod.mk.inj (Option.some.inj a)
    obtain ⟨a2, a3⟩ := Prod.mk.inj a23
    have b := Option.some.inj b
    have c := Option.some.inj c
    have k : ob s = hk.val w := by
      show obsY (HandSHeadRun.getT s) = (He.valT fn [] w, true)
      unfold obsY
      unfold oW at a3
      unfold oA at b
      unfold oD at c
      rw [frL_eq] at a3 b c ⊢
      obtain ⟨b1, b2⟩ := He.ba b
      unfold obsK He.obsT He.obsD He.valT He.valD
      rw [a3, b1, b2, c]
      rfl
    show (endS w os).map _ = _
    rw [hz]
    show some (_, _, ob s) = _
    rw [a1, a2, k]
    rfl
end WL
set_option Elab.async false
set_option linter.all false
set_option maxRecDepth 100000
set_option maxHeartbeats 4000000
namespace WL
open PySem PySem.Spec PyProof.Rows L2
/-- data, told by value -/
inductive D where
  | non | bl (b : Bool) | int (i : Int)
  | tup (ds : List D) | lst (ds : List D)
  | ins (C : Addr) (ns : List Str) (ds : List D)
  | dic (ks : List D) (ds : List D)
  /-- the script: a list of ints that stands, read only -/
  | scr (ns : List Int)
structure Bs where
  P : Program
  w : World
  K : PySem.W.Frag
abbrev bs (X : Cx) : Bs := ⟨X.prog, X.w, X.K⟩
/-- a datum as a key -/
def nk : D → NestedKey
  | .int i => .num i
  | .tup ds => .tup (nks ds)
  | _ => .none
where nks : List D → List NestedKey
  | [] => []
  | d :: ds => nk d :: nks ds
/-- the dict's object, by its keys, their places, its values -/
structure DicAt (B : Bs) (d : Addr) (o : Obj) (ns : List NestedKey) (as : List Addr) (ws : List V) (us : List (NestedKey × Addr × Value)) : Prop where
  low : (d == sysModules) = false
  size : us.length ≤ sizeLine
  k : us.map (·.1) = ns
  a : us.map (·.2.1) = as
  v : Vals ws (us.map (·.2.2))
  ex : o.ExactDict
  data : ∃ es ep, o.data = .dict es ep ∧ es.toList = us.map (entryOfKey (nestedKind B.P B.w))
  nd : (us.map (·.1)).Nodup
/-- a dict whose keys are data (tuples, nested); o: its object -/
def dicO (B : Bs) (d : Addr) (o : Obj) (ns : List NestedKey) (as : List Addr) (ws : List V) : HO := .ext fun h => h.get? d = some o ∧ ∃ us, DicAt B d o ns as ws us
def Ex (H H' : Hp) : Prop := ∀ a o, H a = some o → H' a = some o
theorem Ex.refl (H : Hp) : Ex H H := fun _ _ h => h
theorem Ex.trans {H H1 H2 : Hp} (a : Ex H H1) (b : Ex H1 H2) : Ex H H2 := fun x o h => b x o (a x o h)
theorem Ex.new {H : Hp} {p : Addr} {o : HO} (h : H p = none) : Ex H (upd H p o) := fun a u e => by
  rw [upd_ne (ne_of_none e h)]
  exact e
theorem Ex.free {H H' : Hp} {p : Addr} (e : Ex H H') (h : H' p = none) : H p = none := by
  cases h1 : H p with
  | none => rfl
  | some o => rw [e p o h1] at h; cases h
theorem Ex.both {H H' : Hp} {p : Addr} {o : HO} (e : Ex H H') : Ex (upd H p o) (upd H' p o) := fun a u h => by
  by_cases q : a = p
  · subst q; rw [upd_same] at h ⊢; exact h
  · rw [upd_ne q] at h ⊢; exact e a u h
theorem Ex.rd {H H' : Hp} {a : Addr} {u : HO} (e : Ex H H') (h : Rd H a u) : Rd H' a u := by
  rcases h with h | ⟨o, h⟩
  · exact .inl (e a _ h)
  · exact .inr ⟨o, e a _ h⟩
theorem Ex.sql {K : PySem.W.Frag} {H H' : Hp} {a : Addr} {xs : List V} (e : Ex H H') (h : SqL K H a xs) : SqL K H' a xs := by
  rcases h with h | h
  · exact .inl (e.rd h)
  · exact .inr h
theorem Ex.sqt {K : PySem.W.Frag} {H H' : Hp} {a : Addr} {xs : List V} (e : Ex H H') (h : SqT K H a xs) : SqT K H' a xs := by
  rcases h with h | h
  · exact .inl (e.rd h)
  · exact .inr h
mutual
/-- the value v is the datum, in H -/
def Rep (B : Bs) (H : Hp) : D → V → Prop
  | .non, v => v = .non
  | .bl b, v => v = .bl b
  | .int i, v => v = .int i
  | .tup ds, v => ∃ p vs, v = .ref p ∧ SqT B.K H p vs ∧ Reps B H ds vs
  | .lst ds, v => ∃ p vs, v = .ref p ∧ H p = some (.lst vs) ∧ Reps B H ds vs
  | .ins C ns ds, v => ∃ p dx vs, v = .ref p ∧ H p = some (.ins C dx (ns.zip vs)) ∧ ns.length = ds.length ∧ Reps B H ds vs
  | .dic ks ds, v => ∃ (p : Addr) (o : Obj) (as : List Addr) (vs : List V), v = .ref p ∧ H p = some (dicO B p o (nk.nks ks) as vs) ∧ as.length = ks.length ∧ vs.length = ks.length ∧ Reps B H ks (as.map V.ref) ∧ Reps B H ds vs
  | .scr ns, v => ∃ p, v = .ref p ∧ SqL B.K H p (ns.map V.int)
def Reps (B : Bs) (H : Hp) : List D → List V → Prop
  | [], vs => vs = []
  | d :: ds, vs => ∃ v vs', vs = v :: vs' ∧ Rep B H d v ∧ Reps B H ds vs'
end
mutual
theorem Rep.mono {B : Bs} {H H' : Hp} (e : Ex H H') : ∀ (d : D) (v : V), Rep B H d v → Rep B H' d v
  | .non, v, h => by rw [Rep] at h ⊢; exact h
  | .bl b, v, h => by rw [Rep] at h ⊢; exact h
  | .int i, v, h => by rw [Rep] at h ⊢; exact h
  | .tup ds, v, h => by
    rw [Rep] at h ⊢
    obtain ⟨p, vs, a, b, c⟩ := h
    exact ⟨p, vs, a, e.sqt b, Reps.mono e ds vs c⟩
  | .lst ds, v, h => by
    rw [Rep] at h ⊢
    obtain ⟨p, vs, a, b, c⟩ := h
    exact ⟨p, vs, a, e _ _ b, Reps.mono e ds vs c⟩
  | .ins C ns ds, v, h => by
    rw [Rep] at h ⊢
    obtain ⟨p, dx, vs, a, b, l, c⟩ := h
    exact ⟨p, dx, vs, a, e _ _ b, l, Reps.mono e ds vs c⟩
  | .dic ks ds, v, h => by
    rw [Rep] at h ⊢
    obtain ⟨p, ob, as, vs, a, b, l, l2, c, c2⟩ := h
    exact ⟨p, ob, as, vs, a, e _ _ b, l, l2, Reps.mono e ks _ c, Reps.mono e ds vs c2⟩
  | .scr ns, v, h => by
    rw [Rep] at h ⊢
    obtain ⟨p, a, b⟩ := h
    exact ⟨p, a, e.sql b⟩
theorem Reps.mono {B : Bs} {H H' : Hp} (e : Ex H H') : ∀ (ds : List D) (vs : List V), Reps B H ds vs → Reps B H' ds vs
  | [], vs, h => by rw [Reps] at h ⊢; exact h
  | d :: ds, vs, h => by
    rw [Reps] at h ⊢
    obtain ⟨v, vs', a, b, c⟩ := h
    exact ⟨v, vs', a, Rep.mono e d v b, Reps.mono e ds vs' c⟩
end
theorem Reps.length {B : Bs} {H : Hp} : ∀ {ds : List D} {vs : List V}, Reps B H ds vs → ds.length = vs.length
  | [], vs, h => by rw [Reps] at h; subst h; rfl
  | d :: ds, vs, h => by
    rw [Reps] at h
    obtain ⟨v, vs', rfl, b, c⟩ := h
    simp [Reps.length c]
theorem Reps.get {B : Bs} {H : Hp} : ∀ {ds : List D} {vs : List V} {i : Nat} {d : D}, Reps B H ds vs → ds[i]? = some d → ∃ v, vs[i]? = some v ∧ Rep B H d v
  | [], vs, i, d, h, e => by simp at e
  | x :: ds, vs, i, d, h, e => by
    rw [Reps] at h
    obtain ⟨v, vs', rfl, b, c⟩ := h
    cases i with
    | zero => simp at e; subst e; exact ⟨v, rfl, b⟩
    | succ i => simp at e; simpa using Reps.get c e
theorem Reps.getV {B : Bs} {H : Hp} : ∀ {ds : List D} {vs : List V} {i : Nat} {v : V}, Reps B H ds vs → vs[i]? = some v → ∃ d, ds[i]? = some d ∧ Rep B H d v
  | [], vs, i, d, h, e => by rw [Reps] at h; subst h; simp at e
  | x :: ds, vs, i, d, h, e => by
    rw [Reps] at h
    obtain ⟨v, vs', rfl, b, c⟩ := h
    cases i with
    | zero => simp at e; subst e; exact ⟨x, rfl, b⟩
    | succ i => simp at e; simpa using Reps.getV c e
theorem Reps.nil {B : Bs} {H : Hp} : Reps B H [] [] := by rw [Reps]
theorem Reps.cons {B : Bs} {H : Hp} {d : D} {ds : List D} {v : V} {vs : List V} (h : Rep B H d v) (t : Reps B H ds vs) : Reps B H (d :: ds) (v :: vs) := by
  rw [Reps]; exact ⟨v, vs, rfl, h, t⟩
theorem Reps.append {B : Bs} {H : Hp} : ∀ {ds es : List D} {vs ws : List V}, Reps B H ds vs → Reps B H es ws → Reps B H (ds ++ es) (vs ++ ws)
  | [], es, vs, ws, h, k => by rw [Reps] at h; subst h; exact k
  | d :: ds, es, vs, ws, h, k => by
    rw [Reps] at h
    obtain ⟨v, vs', rfl, b, c⟩ := h
    exact .cons b (Reps.append c k)
theorem Reps.take {B : Bs} {H : Hp} : ∀ {ds : List D} {vs : List V} (n : Nat), Reps B H ds vs → Reps B H (ds.take n) (vs.take n)
  | _, _, 0, h => by simp [Reps]
  | [], vs, n + 1, h => by rw [Reps] at h; subst h; simp [Reps]
  | d :: ds, vs, n + 1, h => by
    rw [Reps] at h
    obtain ⟨v, vs', rfl, b, c⟩ := h
    exact .cons b (Reps.take n c)
theorem Reps.drop {B : Bs} {H : Hp} : ∀ {ds : List D} {vs : List V} (n : Nat), Reps B H ds vs → Reps B H (ds.drop n) (vs.drop n)
  | _, _, 0, h => h
  | [], vs, n + 1, h => by rw [Reps] at h; subst h; simp [Reps]
  | d :: ds, vs, n + 1, h => by
    rw [Reps] at h
    obtain ⟨v, vs', rfl, b, c⟩ := h
    exact Reps.drop n c
theorem Reps.set {B : Bs} {H : Hp} {d : D} {v : V} (r : Rep B H d v) : ∀ {ds : List D} {vs : List V} (n : Nat), Reps B H ds vs → Reps B H (ds.set n d) (vs.set n v)
  | [], vs, n, h => by rw [Reps] at h; subst h; simp [Reps]
  | x :: ds, vs, n, h => by
    rw [Reps] at h
    obtain ⟨u, vs', rfl, b, c⟩ := h
    cases n with
    | zero => exact .cons r c
    | succ n => exact .cons b (Reps.set r n c)
theorem Reps.ints {B : Bs} {H : Hp} : ∀ {is : List Int} {vs : List V}, Reps B H (is.map D.int) vs → vs = is.map V.int
  | [], vs, h => by simp [Reps] at h; simpa using h
  | i :: is, vs, h => by
    rw [List.map_cons, Reps] at h
    obtain ⟨v, vs', rfl, b, c⟩ := h
    rw [Rep] at b
    rw [b, Reps.ints c]; rfl
theorem Reps.of_ints {B : Bs} {H : Hp} : ∀ {is : List Int}, Reps B H (is.map D.int) (is.map V.int)
  | [] => .nil
  | i :: is => .cons (by rw [Rep]) Reps.of_ints
theorem Reps.bools {B : Bs} {H : Hp} : ∀ {is : List Bool} {vs : List V}, Reps B H (is.map D.bl) vs → vs = is.map V.bl
  | [], vs, h => by simp [Reps] at h; simpa using h
  | i :: is, vs, h => by
    rw [List.map_cons, Reps] at h
    obtain ⟨v, vs', rfl, b, c⟩ := h
    rw [Rep] at b
    rw [b, Reps.bools c]; rfl
theorem rep_int {B : Bs} {H : Hp} {i : Int} : Rep B H (.int i) (.int i) := by rw [Rep]
theorem rep_bl {B : Bs} {H : Hp} {i : Bool} : Rep B H (.bl i) (.bl i) := by rw [Rep]
theorem rep_non {B : Bs} {H : Hp} : Rep B H .non .non := by rw [Rep]
theorem Rep.int {B : Bs} {H : Hp} {i : Int} {v : V} (h : Rep B H (.int i) v) : v = .int i := by rwa [Rep] at h
theorem Rep.bl {B : Bs} {H : Hp} {i : Bool} {v : V} (h : Rep B H (.bl i) v) : v = .bl i := by rwa [Rep] at h
theorem Rep.non {B : Bs} {H : Hp} {v : V} (h : Rep B H .non v) : v = .non := by rwa [Rep] at h
theorem Rep.tup {B : Bs} {H : Hp} {ds : List D} {v : V} (h : Rep B H (.tup ds) v) : ∃ p vs, v = .ref p ∧ SqT B.K H p vs ∧ Reps B H ds vs := by rwa [Rep] at h
theorem Rep.lst {B : Bs} {H : Hp} {ds : List D} {v : V} (h : Rep B H (.lst ds) v) : ∃ p vs, v = .ref p ∧ H p = some (.lst vs) ∧ Reps B H ds vs := by rwa [Rep] at h
theorem Rep.ins {B : Bs} {H : Hp} {C : Addr} {ns : List Str} {ds : List D} {v : V} (h : Rep B H (.ins C ns ds) v) : ∃ p dx vs, v = .ref p ∧ H p = some (.ins C dx (ns.zip vs)) ∧ ns.length = ds.length ∧ Reps B H ds vs := by rwa [Rep] at h
theorem rep_tup {B : Bs} {H : Hp} {ds : List D} {p : Addr} {vs : List V} (h : SqT B.K H p vs) (r : Reps B H ds vs) : Rep B H (.tup ds) (.ref p) := by rw [Rep]; exact ⟨p, vs, rfl, h, r⟩
theorem rep_lst {B : Bs} {H : Hp} {ds : List D} {p : Addr} {vs : List V} (h : H p = some (.lst vs)) (r : Reps B H ds vs) : Rep B H (.lst ds) (.ref p) := by rw [Rep]; exact ⟨p, vs, rfl, h, r⟩
theorem rep_ins {B : Bs} {H : Hp} {C dx : Addr} {ns : List Str} {ds : List D} {p : Addr} {vs : List V} (h : H p = some (.ins C dx (ns.zip vs))) (l : ns.length = ds.length) (r : Reps B H ds vs) : Rep B H (.ins C ns ds) (.ref p) := by rw [Rep]; exact ⟨p, dx, vs, rfl, h, l, r⟩
end WL
set_option Elab.async false
set_option linter.all false
set_option maxRecDepth 100000
set_option maxHeartbeats 4000000
namespace WL
open PySem PySem.Spec PyProof.Rows L2
/-- an object that is changed: a list, an instance, a dict -/
inductive O where
  | lst (ds : List D) | ins (C dx : Addr) (ns : List Str) (ds : List D) | dic (ks : List D) (ds : List D)
/-- what a slot holds: nothing known, a datum, an object of one's own at l -/
inductive E where
  | no | d (x : D) | own (l : Addr) (o : O)
def ORep (B : Bs) (H : Hp) (l : Addr) : O → HO → Prop
  | .lst ds, ho => ∃ vs, ho = .lst vs ∧ Reps B H ds vs
  | .ins C dx ns ds, ho => ∃ vs, ho = .ins C dx (ns.zip vs) ∧ ns.length = ds.length ∧ Reps B H ds vs
  | .dic ks ds, ho => ∃ (ob : Obj) (as : List Addr) (vs : List V), ho = dicO B l ob (nk.nks ks) as vs ∧ as.length = ks.length ∧ vs.length = ks.length ∧ Reps B H ks (as.map V.ref) ∧ Reps B H ds vs
theorem ORep.mono {B : Bs} {H H' : Hp} {l : Addr} (e : Ex H H') {o : O} {ho : HO} (h : ORep B H l o ho) : ORep B H' l o ho := by
  cases o with
  | lst ds => obtain ⟨vs, a, b⟩ := h; exact ⟨vs, a, Reps.mono e _ _ b⟩
  | ins C dx ns ds => obtain ⟨vs, a, z, b⟩ := h; exact ⟨vs, a, z, Reps.mono e _ _ b⟩
  | dic ks ds => obtain ⟨ob, as, vs, a, z, z2, b, c⟩ := h; exact ⟨ob, as, vs, a, z, z2, Reps.mono e _ _ b, Reps.mono e _ _ c⟩
/-- the object as a datum -/
def O.d : O → D
  | .lst ds => .lst ds
  | .ins C _ ns ds => .ins C ns ds
  | .dic ks ds => .dic ks ds
theorem ORep.rep {B : Bs} {H : Hp} {l : Addr} {o : O} {ho : HO} (h : ORep B H l o ho) (n : H l = none) : Rep B (upd H l ho) o.d (.ref l) := by
  have e : Ex H (upd H l ho) := Ex.new n
  cases o with
  | lst ds => obtain ⟨vs, rfl, b⟩ := h; exact rep_lst upd_same (Reps.mono e _ _ b)
  | ins C dx ns ds => obtain ⟨vs, rfl, z, b⟩ := h; exact rep_ins upd_same z (Reps.mono e _ _ b)
  | dic ks ds =>
    obtain ⟨ob, as, vs, rfl, z, z2, b, c⟩ := h
    show Rep B _ (.dic ks ds) _
    rw [Rep]
    exact ⟨l, ob, as, vs, rfl, upd_same, z, z2, Reps.mono e _ _ b, Reps.mono e _ _ c⟩
/-- the state's data: rho tells the slots; Hb what of H is known as data; Hb0, H0 the heaps at the entry -/
structure EnvS (B : Bs) (Hb0 H0 : Hp) (ρ : List E) (σ : L2.St) (Hb H : Hp) : Prop where
  len : σ.length = ρ.length
  ex0 : Ex Hb0 Hb
  ex1 : Ex H0 H
  sub : Ex Hb H
  fr : ∀ a o, H0 a = some o → Hb a = Hb0 a
  dat : ∀ (i : Nat) (x : D), ρ[i]? = some (.d x) → ∃ v, σ[i]? = some (some v) ∧ Rep B Hb x v
  own : ∀ (i : Nat) (l : Addr) (o : O), ρ[i]? = some (.own l o) → σ[i]? = some (some (.ref l)) ∧ Hb l = none ∧ H0 l = none ∧ ∃ ho, H l = some ho ∧ ORep B Hb l o ho
  ap : ∀ (i j : Nat) (l : Addr) (o o' : O), ρ[i]? = some (.own l o) → ρ[j]? = some (.own l o') → i = j
/-- l is none of the objects of one's own -/
def NotOwn (ρ : List E) (l : Addr) : Prop := ∀ (i : Nat) (o : O), ρ[i]? ≠ some (.own l o)
section
variable {B : Bs} {Hb0 H0 Hb H Hb' H' : Hp} {ρ : List E} {σ : L2.St}
/-- more is known and there -/
theorem EnvS.grow (e : EnvS B Hb0 H0 ρ σ Hb H) (a : Ex Hb Hb') (b : Ex H H') (c : Ex Hb' H') (f : ∀ x o, H x = some o → Hb' x = Hb x) : EnvS B Hb0 H0 ρ σ Hb' H' where
  len := e.len
  ex0 := e.ex0.trans a
  ex1 := e.ex1.trans b
  sub := c
  fr := fun x o h => (f x o (e.ex1 x o h)).trans (e.fr x o h)
  dat := fun i x h => let ⟨v, h1, h2⟩ := e.dat i x h; ⟨v, h1, Rep.mono a _ _ h2⟩
  own := fun i l o h => let ⟨h1, h2, h3, ho, h4, h5⟩ := e.own i l o h; ⟨h1, by rw [f l ho h4]; exact h2, h3, ho, b _ _ h4, h5.mono a⟩
  ap := e.ap
/-- a new object that is known -/
theorem EnvS.new (e : EnvS B Hb0 H0 ρ σ Hb H) {p : Addr} {o : HO} (n : H p = none) : EnvS B Hb0 H0 ρ σ (upd Hb p o) (upd H p o) :=
  e.grow (Ex.new (e.sub.free n)) (Ex.new n) e.sub.both fun x u h => by rw [upd_ne (ne_of_none h n)]
/-- a new object that is not known yet -/
theorem EnvS.newO (e : EnvS B Hb0 H0 ρ σ Hb H) {p : Addr} {o : HO} (n : H p = none) : EnvS B Hb0 H0 ρ σ Hb (upd H p o) :=
  e.grow (Ex.refl _) (Ex.new n) (e.sub.trans (Ex.new n)) fun _ _ _ => rfl
/-- an object comes to be known -/
theorem EnvS.known (e : EnvS B Hb0 H0 ρ σ Hb H) {p : Addr} {ho : HO} (nb : Hb p = none) (n0 : H0 p = none) (hp : H p = some ho) (no : NotOwn ρ p) : EnvS B Hb0 H0 ρ σ (upd Hb p ho) H where
  len := e.len
  ex0 := e.ex0.trans (Ex.new nb)
  ex1 := e.ex1
  sub := fun a o h => by
    by_cases q : a = p
    · subst q; rw [upd_same] at h; rw [hp]; exact h
    · rw [upd_ne q] at h; exact e.sub a o h
  fr := fun a o h => by rw [upd_ne (ne_of_none h n0)]; exact e.fr a o h
  dat := fun i x h => let ⟨v, h1, h2⟩ := e.dat i x h; ⟨v, h1, Rep.mono (Ex.new nb) _ _ h2⟩
  own := fun i l o h => by
    obtain ⟨h1, h2, h3, u, h4, h5⟩ := e.own i l o h
    have hl : l ≠ p := fun q => no i o (by rw [← q]; exact h)
    exact ⟨h1, by rw [upd_ne hl]; exact h2, h3, u, h4, h5.mono (Ex.new nb)⟩
  ap := e.ap
theorem EnvS.notOwn (e : EnvS B Hb0 H0 ρ σ Hb H) {p : Addr} (n : H p = none) : NotOwn ρ p := fun i o h => by
  obtain ⟨_, _, _, ho, h4, _⟩ := e.own i p o h
  rw [n] at h4; cases h4
theorem get_set {α : Type} {l : List α} {i j : Nat} {x : α} : (l.set i x)[j]? = if i = j ∧ j < l.length then some x else l[j]? := by
  by_cases h : i = j
  · subst h
    by_cases k : i < l.length
    · rw [if_pos ⟨rfl, k⟩, List.getElem?_set_self k]
    · rw [if_neg (fun z => k z.2), List.getElem?_eq_none (by rw [List.length_set]; omega), List.getElem?_eq_none (by omega)]
  · rw [if_neg (fun z => h z.1), List.getElem?_set_ne h]
/-- a slot holds a datum -/
theorem EnvS.setd (e : EnvS B Hb0 H0 ρ σ Hb H) {i : Nat} {x : D} {v : V} (r : Rep B Hb x v) : EnvS B Hb0 H0 (ρ.set i (.d x)) (σ.set i (some v)) Hb H where
  len := by rw [List.length_set, List.length_set]; exact e.len
  ex0 := e.ex0
  ex1 := e.ex1
  sub := e.sub
  fr := e.fr
  dat := fun j y h => by
    rw [get_set] at h ⊢
    rw [e.len]
    split at h
    · rename_i q
      cases h
      exact ⟨v, by rw [if_pos q], r⟩
    · rename_i q
      rw [if_neg q]
      exact e.dat j y h
  own := fun j l o h => by
    rw [get_set] at h ⊢
    rw [e.len]
    split at h
    · cases h
    · rename_i q
      rw [if_neg q]
      exact e.own j l o h
  ap := fun j k l o o' h h' => by
    rw [get_set] at h h'
    split at h
    · cases h
    · split at h'
      · cases h'
      · exact e.ap j k l o o' h h'
/-- a slot holds an object of one's own -/
theorem EnvS.seto (e : EnvS B Hb0 H0 ρ σ Hb H) {i : Nat} {l : Addr} {o : O} {ho : HO} (nb : Hb l = none) (n0 : H0 l = none) (hl : H l = some ho) (r : ORep B Hb l o ho) (no : NotOwn (ρ.set i .no) l) : EnvS B Hb0 H0 (ρ.set i (.own l o)) (σ.set i (some (.ref l))) Hb H where
  len := by rw [List.length_set, List.length_set]; exact e.len
  ex0 := e.ex0
  ex1 := e.ex1
  sub := e.sub
  fr := e.fr
  dat := fun j y h => by
    rw [get_set] at h ⊢
    rw [e.len]
    split at h
    · cases h
    · rename_i q
      rw [if_neg q]
      exact e.dat j y h
  own := fun j l' o' h => by
    rw [get_set] at h ⊢
    rw [e.len]
    split at h
    · rename_i q
      cases h
      exact ⟨by rw [if_pos q], nb, n0, ho, hl, r⟩
    · rename_i q
      rw [if_neg q]
      exact e.own j l' o' h
  ap := fun j k l' o1 o2 h h' => by
    rw [get_set] at h h'
    split at h
    · rename_i q
      split at h'
      · rename_i q'
        omega
      · rename_i q'
        cases h
        exfalso
        refine no k o2 ?_
        rw [get_set, if_neg (fun z => q' ⟨z.1, z.2⟩)]
        exact h'
    · rename_i q
      split at h'
      · rename_i q'
        cases h'
        exfalso
        refine no j o1 ?_
        rw [get_set, if_neg (fun z => q ⟨z.1, z.2⟩)]
        exact h
      · exact e.ap j k l' o1 o2 h h'
/-- an object of one's own is changed -/
theorem EnvS.mut (e : EnvS B Hb0 H0 ρ σ Hb H) {i : Nat} {l : Addr} {o o' : O} {ho : HO} (h : ρ[i]? = some (.own l o)) (r : ORep B Hb l o' ho) : EnvS B Hb0 H0 (ρ.set i (.own l o')) σ Hb (upd H l ho) where
  len := by rw [List.length_set]; exact e.len
  ex0 := e.ex0
  ex1 := fun a u q => by rw [upd_ne (ne_of_none q (e.own i l o h).2.2.1)]; exact e.ex1 a u q
  sub := fun a u q => by rw [upd_ne (ne_of_none q (e.own i l o h).2.1)]; exact e.sub a u q
  fr := e.fr
  dat := fun j y q => by
    rw [get_set] at q
    split at q
    · cases q
    · exact e.dat j y q
  own := fun j l' o1 q => by
    rw [get_set] at q
    split at q
    · rename_i z
      cases q
      obtain ⟨h1, h2, h3, _⟩ := e.own i l o h
      exact ⟨by rw [← z.1]; exact h1, h2, h3, ho, upd_same, r⟩
    · rename_i z
      obtain ⟨h1, h2, h3, u, h4, h5⟩ := e.own j l' o1 q
      have hi : i < ρ.length := (List.getElem?_eq_some_iff.mp h).1
      have hl : l' ≠ l := fun w => z (by
        subst w
        have := e.ap i j l' o o1 h q
        subst this
        exact ⟨rfl, hi⟩)
      exact ⟨h1, h2, h3, u, by rw [upd_ne hl]; exact h4, h5⟩
  ap := fun j k l' o1 o2 h1 h2 => by
    rw [get_set] at h1 h2
    split at h1
    · rename_i q
      cases h1
      split at h2
      · rename_i q'; omega
      · rename_i q'
        exact q.1.symm.trans (e.ap i k l o o2 h h2)
    · rename_i q
      split at h2
      · rename_i q'
        cases h2
        exact (e.ap j i l o1 o h1 h).trans q'.1
      · exact e.ap j k l' o1 o2 h1 h2
/-- a slot is forgotten -/
theorem EnvS.drop (e : EnvS B Hb0 H0 ρ σ Hb H) (i : Nat) : EnvS B Hb0 H0 (ρ.set i .no) σ Hb H where
  len := by rw [List.length_set]; exact e.len
  ex0 := e.ex0
  ex1 := e.ex1
  sub := e.sub
  fr := e.fr
  dat := fun j y q => by
    rw [get_set] at q
    split at q
    · cases q
    · exact e.dat j y q
  own := fun j l' o1 q => by
    rw [get_set] at q
    split at q
    · cases q
    · exact e.own j l' o1 q
  ap := fun j k l' o1 o2 h1 h2 => by
    rw [get_set] at h1 h2
    split at h1
    · cases h1
    · split at h2
      · cases h2
      · exact e.ap j k l' o1 o2 h1 h2
/-- a slot that is overwritten by something of no interest -/
theorem EnvS.setn (e : EnvS B Hb0 H0 ρ σ Hb H) (i : Nat) (v : Option V) : EnvS B Hb0 H0 (ρ.set i .no) (σ.set i v) Hb H where
  len := by rw [List.length_set, List.length_set]; exact e.len
  ex0 := e.ex0
  ex1 := e.ex1
  sub := e.sub
  fr := e.fr
  dat := fun j y q => by
    rw [get_set] at q ⊢
    rw [e.len]
    split at q
    · cases q
    · rename_i z
      rw [if_neg z]
      exact e.dat j y q
  own := fun j l' o1 q => by
    rw [get_set] at q ⊢
    rw [e.len]
    split at q
    · cases q
    · rename_i z
      rw [if_neg z]
      exact e.own j l' o1 q
  ap := fun j k l' o1 o2 h1 h2 => by
    rw [get_set] at h1 h2
    split at h1
    · cases h1
    · split at h2
      · cases h2
      · exact e.ap j k l' o1 o2 h1 h2
theorem set_set_same {α : Type} {l : List α} {i : Nat} {x y : α} : (l.set i x).set i y = l.set i y := List.set_set ..
theorem notOwn_drop (e : EnvS B Hb0 H0 ρ σ Hb H) {i : Nat} {l : Addr} {o : O} (h : ρ[i]? = some (.own l o)) : NotOwn (ρ.set i .no) l := fun j o' q => by
  rw [get_set] at q
  split at q
  · cases q
  · rename_i z
    have := e.ap i j l o o' h q
    subst this
    exact z ⟨rfl, (List.getElem?_eq_some_iff.mp h).1⟩
/-- an object of one's own becomes a datum -/
theorem EnvS.freeze (e : EnvS B Hb0 H0 ρ σ Hb H) {i : Nat} {l : Addr} {o : O} (h : ρ[i]? = some (.own l o)) : ∃ Hb', Ex Hb Hb' ∧ Rep B Hb' o.d (.ref l) ∧ EnvS B Hb0 H0 (ρ.set i (.d o.d)) σ Hb' H := by
  obtain ⟨h1, h2, h3, ho, h4, h5⟩ := e.own i l o h
  have k := (e.drop i).known h2 h3 h4 (notOwn_drop e h)
  have r := h5.rep h2
  have q := k.setd (i := i) r
  rw [set_set_same] at q
  have s : σ.set i (some (.ref l)) = σ := List.ext_getElem? fun j => by
    rw [get_set]
    split
    · rename_i z; rw [← z.1]; exact h1.symm
    · rfl
  rw [s] at q
  exact ⟨_, Ex.new h2, r, q⟩
end
/-! ### the greatest readings -/
section
variable (X : Cx)
def W (e : Expr) : TE := fun σ H Q => ∀ pins s, Inv X pins σ H s → wpAny (model X.prog X.w) X.A (eval e X.env) (EP X pins σ Q) X.xe s
def WT (e : Expr) : TT := fun σ H Q => ∀ pins s, Inv X pins σ H s → wpAny (model X.prog X.w) X.A (isTrue e X.env (eval e X.env)) (TP X pins σ Q) X.xe s
def WA (es : List Expr) : TA := fun σ H Q => ∀ pos pins s, Inv X pins σ H s → wpAny (model X.prog X.w) X.A (spliced (backTo pos (starEach es X.env))) (AP X pins σ Q) X.xe s
def WS (st : Stmt) : TS := fun D σ H => ∀ pins s, Inv X pins σ H s → wpAny (model X.prog X.w) X.A (exec st X.env) (SP X pins D) X.xe s
def WSs (sts : List Stmt) : TS := fun D σ H => ∀ pins s, Inv X pins σ H s → wpAny (model X.prog X.w) X.A (execs sts X.env) (SP X pins D) X.xe s
def WG (tg : Expr) : TG := fun v σ H Q => ∀ pins s u, Inv X pins σ H s → RelV v u → wpAny (model X.prog X.w) X.A (assign tg X.env u) (fun _ s' => ∃ σ' H', Inv X pins σ' H' s' ∧ Q σ' H') X.xe s
end
section
variable {X : Cx} {e : Expr} {es : List Expr} {st : Stmt} {sts : List Stmt} {tg : Expr}
theorem pe_w : PE X e (W X e) := ⟨fun pins s _ _ _ I h => h pins s I⟩
theorem pt_w : PT X e (WT X e) := ⟨fun pins s _ _ _ I h => h pins s I⟩
theorem pa_w : PA X es (WA X es) := ⟨fun pos pins s _ _ _ I h => h pos pins s I⟩
theorem ps_w : PS X st (WS X st) := ⟨fun pins s _ _ _ I h => h pins s I⟩
theorem pss_w : PSs X sts (WSs X sts) := ⟨fun pins s _ _ _ I h => h pins s I⟩
theorem pg_w : PG X tg (WG X tg) := ⟨fun pins s _ _ _ u _ I r h => h pins s u I r⟩
theorem _root_.L2.PE.w {t : TE} (h : PE X e t) {σ : L2.St} {H : Hp} {Q : VK} (q : t σ H Q) : W X e σ H Q := fun pins s I => h.run pins s σ H Q I q
theorem _root_.L2.PT.w {t : TT} (h : PT X e t) {σ : L2.St} {H : Hp} {Q : Bool → Hp → Prop} (q : t σ H Q) : WT X e σ H Q := fun pins s I => h.run pins s σ H Q I q
theorem _root_.L2.PA.w {t : TA} (h : PA X es t) {σ : L2.St} {H : Hp} {Q : List V → Hp → Prop} (q : t σ H Q) : WA X es σ H Q := fun pos pins s I => h.run pos pins s σ H Q I q
theorem _root_.L2.PS.w {t : TS} (h : PS X st t) {σ : L2.St} {H : Hp} {D : Ends} (q : t D σ H) : WS X st D σ H := fun pins s I => h.run pins s σ H D I q
theorem _root_.L2.PSs.w {t : TS} (h : PSs X sts t) {σ : L2.St} {H : Hp} {D : Ends} (q : t D σ H) : WSs X sts D σ H := fun pins s I => h.run pins s σ H D I q
theorem _root_.L2.PG.w {t : TG} (h : PG X tg t) {v : V} {σ : L2.St} {H : Hp} {Q : L2.St → Hp → Prop} (q : t v σ H Q) : WG X tg v σ H Q := fun pins s u I r => h.run pins s σ H v u Q I r q
/-- the readings are monotone -/
theorem W.mono {σ : L2.St} {H : Hp} {Q Q' : VK} (h : W X e σ H Q) (q : ∀ v H', Q v H' → Q' v H') : W X e σ H Q' := fun pins s I => thn (h pins s I) fun _ _ ⟨v, H', I', r, z⟩ => ⟨v, H', I', r, q v H' z⟩
end
end WL
set_option Elab.async false
set_option linter.all false
set_option maxRecDepth 100000
set_option maxHeartbeats 4000000
namespace WL
open PySem PySem.Spec PyProof.Rows L2
section
variable (X : Cx)
/-- the expression has the datum d, the state's data go from rho to rho' -/
def PD (ρ : List E) (e : Expr) (ρ' : List E) (d : D) : Prop := ∀ Hb0 H0 σ Hb H, EnvS (bs X) Hb0 H0 ρ σ Hb H → ∀ Q : VK,
  (∀ v Hb' H', EnvS (bs X) Hb0 H0 ρ' σ Hb' H' → Ex Hb Hb' → Rep (bs X) Hb' d v → Q v H') → W X e σ H Q
/-- .. is a new object of one's own -/
def PL (ρ : List E) (e : Expr) (ρ' : List E) (o : O) : Prop := ∀ Hb0 H0 σ Hb H, EnvS (bs X) Hb0 H0 ρ σ Hb H → ∀ Q : VK,
  (∀ l Hb' H' ho, EnvS (bs X) Hb0 H0 ρ' σ Hb' H' → Ex Hb Hb' → Hb' l = none → H0 l = none → H' l = some ho → ORep (bs X) Hb' l o ho → NotOwn ρ' l → Q (.ref l) H') → W X e σ H Q
def PTD (ρ : List E) (e : Expr) (ρ' : List E) (b : Bool) : Prop := ∀ Hb0 H0 σ Hb H, EnvS (bs X) Hb0 H0 ρ σ Hb H → ∀ Q : Bool → Hp → Prop,
  (∀ Hb' H', EnvS (bs X) Hb0 H0 ρ' σ Hb' H' → Ex Hb Hb' → Q b H') → WT X e σ H Q
def PAD (ρ : List E) (es : List Expr) (ρ' : List E) (ds : List D) : Prop := ∀ Hb0 H0 σ Hb H, EnvS (bs X) Hb0 H0 ρ σ Hb H → ∀ Q : List V → Hp → Prop,
  (∀ vs Hb' H', EnvS (bs X) Hb0 H0 ρ' σ Hb' H' → Ex Hb Hb' → Reps (bs X) Hb' ds vs → Q vs H') → WA X es σ H Q
end
section
variable {X : Cx} {ρ ρ' ρ1 ρ2 ρ3 ρ4 : List E} {e a b c : Expr} {es : List Expr} {pos : Pos} {d x y z : D} {ds : List D} {i j k : Int}
theorem PL.fz {o : O} (h : PL X ρ e ρ' o) : PD X ρ e ρ' o.d := fun Hb0 H0 σ Hb H ev Q q => h Hb0 H0 σ Hb H ev Q fun l Hb' H' ho ev' x nb n0 hl r no =>
  q (.ref l) (upd Hb' l ho) H' (ev'.known nb n0 hl no) (x.trans (Ex.new nb)) (r.rep nb)
theorem PL.lst (h : PL X ρ e ρ' (.lst ds)) : PD X ρ e ρ' (.lst ds) := h.fz
/-! ### names, constants -/
theorem pd_var (i : Nat) {x : Str} {d : D} (hd : ρ[i]? = some (.d d)) (hN : X.N[i]? = some x := by rfl) (hv : Vis X.env.scope x := by first | exact Or.inl rfl | exact Or.inr (Or.inl rfl) | exact Or.inr (Or.inr rfl))
    (h1 : (x == ("__debug__" : Str)) = false := by decide) (h2 : (x == ("__classdict__" : Str)) = false := by decide) : PD X ρ (.Name x pos) ρ d := fun Hb0 H0 σ Hb H ev Q q => by
  obtain ⟨v, e1, r⟩ := ev.dat i d hd
  exact (pe_var hN hv h1 h2).w ⟨v, e1, q v Hb H ev (Ex.refl _) r⟩
/-- a name of an object of one's own: it becomes a datum -/
theorem pd_frz (i : Nat) {x : Str} {l : Addr} {o : O} (hd : ρ[i]? = some (.own l o)) (hN : X.N[i]? = some x := by rfl) (hv : Vis X.env.scope x := by first | exact Or.inl rfl | exact Or.inr (Or.inl rfl) | exact Or.inr (Or.inr rfl))
    (h1 : (x == ("__debug__" : Str)) = false := by decide) (h2 : (x == ("__classdict__" : Str)) = false := by decide) : PD X ρ (.Name x pos) (ρ.set i (.d o.d)) o.d := fun Hb0 H0 σ Hb H ev Q q => by
  obtain ⟨e1, _⟩ := ev.own i l o hd
  obtain ⟨Hb', x1, r, ev'⟩ := ev.freeze hd
  exact (pe_var hN hv h1 h2).w ⟨.ref l, e1, q _ Hb' H ev' x1 r⟩
theorem pd_int {i : Int} {j : Nat} : PD X ρ (.Constant (.int i) j pos) ρ (.int i) := fun _ _ _ Hb H ev Q q => pe_int.w (q _ Hb H ev (Ex.refl _) rep_int)
theorem pd_bl {b : Bool} {j : Nat} : PD X ρ (.Constant (.bool b) j pos) ρ (.bl b) := fun _ _ _ Hb H ev Q q => pe_bl.w (q _ Hb H ev (Ex.refl _) rep_bl)
theorem pd_non {j : Nat} : PD X ρ (.Constant .none j pos) ρ .non := fun _ _ _ Hb H ev Q q => pe_non.w (q _ Hb H ev (Ex.refl _) rep_non)
/-- a module's constant: an int -/
theorem pd_glob {x : Str} (hm : ∃ t, X.mg x = some (.int i t)) (hg : Gl X x := by rfl) (hd : (x == ("__debug__" : Str)) = false := by decide) : PD X ρ (.Name x pos) ρ (.int i) := fun _ _ _ Hb H ev Q q => let ⟨t, hm⟩ := hm
  (pe_glob (v := .int i) hg hm ⟨t, rfl⟩ hd).w (q _ Hb H ev (Ex.refl _) rep_int)
/-! ### whole numbers -/
theorem pd_opI {op : Operator} {C : Int → Int → Prop} {g : Int → Int → Int} (ho : OpR X (binaryOp op) (rI C fun i j => .int (g i j))) (ha : PD X ρ a ρ1 (.int i)) (hb : PD X ρ1 b ρ2 (.int j)) (hc : C i j) : PD X ρ (.BinOp a op b pos) ρ2 (.int (g i j)) :=
  fun _ _ _ _ _ ev Q q => (pe_op ho pe_w pe_w).w (ha _ _ _ _ _ ev _ fun x Hb1 H1 e1 x1 r1 => hb _ _ _ _ _ e1 _ fun y Hb2 H2 e2 x2 r2 => ⟨i, j, r1.int, r2.int, hc, q _ Hb2 H2 e2 (x1.trans x2) rep_int⟩)
theorem pd_add (ha : PD X ρ a ρ1 (.int i)) (hb : PD X ρ1 b ρ2 (.int j)) : PD X ρ (.BinOp a .Add b pos) ρ2 (.int (i + j)) :=
  fun _ _ _ _ _ ev Q q => (pe_op op_add pe_w pe_w).w (ha _ _ _ _ _ ev _ fun x Hb1 H1 e1 x1 r1 => hb _ _ _ _ _ e1 _ fun y Hb2 H2 e2 x2 r2 => ⟨i, j, r1.int, r2.int, q _ Hb2 H2 e2 (x1.trans x2) rep_int⟩)
theorem pd_sub (ha : PD X ρ a ρ1 (.int i)) (hb : PD X ρ1 b ρ2 (.int j)) : PD X ρ (.BinOp a .Sub b pos) ρ2 (.int (i - j)) :=
  fun _ _ _ _ _ ev Q q => (pe_op op_sub pe_w pe_w).w (ha _ _ _ _ _ ev _ fun x Hb1 H1 e1 x1 r1 => hb _ _ _ _ _ e1 _ fun y Hb2 H2 e2 x2 r2 => ⟨i, j, r1.int, r2.int, q _ Hb2 H2 e2 (x1.trans x2) rep_int⟩)
theorem pd_mul (ha : PD X ρ a ρ1 (.int i)) (hb : PD X ρ1 b ρ2 (.int j)) (hc : CMulW i j) : PD X ρ (.BinOp a .Mult b pos) ρ2 (.int (i * j)) := pd_opI op_mulW ha hb hc
theorem pd_fdiv (ha : PD X ρ a ρ1 (.int i)) (hb : PD X ρ1 b ρ2 (.int j)) (hc : CDivW i j) : PD X ρ (.BinOp a .FloorDiv b pos) ρ2 (.int (i / j)) := pd_opI op_fdivW ha hb hc
theorem pd_mod (ha : PD X ρ a ρ1 (.int i)) (hb : PD X ρ1 b ρ2 (.int j)) (hc : 0 < j) : PD X ρ (.BinOp a .Mod b pos) ρ2 (.int (i % j)) := pd_opI op_mod ha hb hc
theorem pd_pow (ha : PD X ρ a ρ1 (.int i)) (hb : PD X ρ1 b ρ2 (.int j)) (hc : CPow i j) : PD X ρ (.BinOp a .Pow b pos) ρ2 (.int (i ^ j.toNat)) := pd_opI op_pow ha hb hc
theorem pd_neg (ha : PD X ρ a ρ1 (.int i)) : PD X ρ (.UnaryOp .USub a pos) ρ1 (.int (-i)) :=
  fun _ _ _ _ _ ev Q q => (pe_un un_neg pe_w).w (ha _ _ _ _ _ ev _ fun x Hb1 H1 e1 x1 r1 => ⟨i, r1.int, q _ Hb1 H1 e1 x1 rep_int⟩)
/-! ### comparisons -/
theorem pd_cmpI {op : CmpOp} {g : Int → Int → Bool} (ho : OpR X (compareOp op) (rI0 fun i j => .bl (g i j))) (ha : PD X ρ a ρ1 (.int i)) (hb : PD X ρ1 b ρ2 (.int j)) (hm : behindInMarks op b = false) : PD X ρ (.Compare a [op] [b] pos) ρ2 (.bl (g i j)) :=
  fun _ _ _ _ _ ev Q q => (pe_cmpR ho pe_w pe_w hm).w (ha _ _ _ _ _ ev _ fun x Hb1 H1 e1 x1 r1 => hb _ _ _ _ _ e1 _ fun y Hb2 H2 e2 x2 r2 => ⟨i, j, r1.int, r2.int, q _ Hb2 H2 e2 (x1.trans x2) rep_bl⟩)
theorem pd_lt (ha : PD X ρ a ρ1 (.int i)) (hb : PD X ρ1 b ρ2 (.int j)) : PD X ρ (.Compare a [.Lt] [b] pos) ρ2 (.bl (decide (i < j))) := pd_cmpI op_lt ha hb (nomark _)
theorem pd_le (ha : PD X ρ a ρ1 (.int i)) (hb : PD X ρ1 b ρ2 (.int j)) : PD X ρ (.Compare a [.LtE] [b] pos) ρ2 (.bl (decide (i ≤ j))) := pd_cmpI op_le ha hb (nomark _)
theorem pd_gt (ha : PD X ρ a ρ1 (.int i)) (hb : PD X ρ1 b ρ2 (.int j)) : PD X ρ (.Compare a [.Gt] [b] pos) ρ2 (.bl (decide (j < i))) := pd_cmpI op_gt ha hb (nomark _)
theorem pd_ge (ha : PD X ρ a ρ1 (.int i)) (hb : PD X ρ1 b ρ2 (.int j)) : PD X ρ (.Compare a [.GtE] [b] pos) ρ2 (.bl (decide (j ≤ i))) := pd_cmpI op_ge ha hb (nomark _)
theorem decV {i j : Int} : decide (V.int i = V.int j) = decide (i = j) := by
  by_cases h : i = j
  · subst h; simp
  · rw [decide_eq_false h, decide_eq_false fun z => h (V.int.inj z)]
theorem pd_eq (ha : PD X ρ a ρ1 (.int i)) (hb : PD X ρ1 b ρ2 (.int j)) : PD X ρ (.Compare a [.Eq] [b] pos) ρ2 (.bl (decide (i = j))) :=
  fun _ _ _ _ _ ev Q q => (pe_cmpR op_eq pe_w pe_w (nomark _)).w (ha _ _ _ _ _ ev _ fun x Hb1 H1 e1 x1 r1 => hb _ _ _ _ _ e1 _ fun y Hb2 H2 e2 x2 r2 => by
    obtain rfl := r1.int
    obtain rfl := r2.int
    exact ⟨rfl, q _ Hb2 H2 e2 (x1.trans x2) (by rw [decV]; exact rep_bl)⟩)
theorem pd_ne (ha : PD X ρ a ρ1 (.int i)) (hb : PD X ρ1 b ρ2 (.int j)) : PD X ρ (.Compare a [.NotEq] [b] pos) ρ2 (.bl (!decide (i = j))) :=
  fun _ _ _ _ _ ev Q q => (pe_cmpR op_ne pe_w pe_w (nomark _)).w (ha _ _ _ _ _ ev _ fun x Hb1 H1 e1 x1 r1 => hb _ _ _ _ _ e1 _ fun y Hb2 H2 e2 x2 r2 => by
    obtain rfl := r1.int
    obtain rfl := r2.int
    exact ⟨rfl, q _ Hb2 H2 e2 (x1.trans x2) (by rw [decV]; exact rep_bl)⟩)
/-- a op b op c over whole numbers -/
theorem pd_chain {op op' : CmpOp} {g g' : Int → Int → Bool} (ho : OpR X (compareOp op) (rI0 fun i j => .bl (g i j))) (ho' : OpR X (compareOp op') (rI0 fun i j => .bl (g' i j)))
    (ha : PD X ρ a ρ1 (.int i)) (hb : PD X ρ1 b ρ2 (.int j)) (hc : PD X ρ2 c ρ2 (.int k)) (hm : lastMarks [op, op'] [b, c] = false := by with_unfolding_all rfl) :
    PD X ρ (.Compare a [op, op'] [b, c] pos) ρ2 (.bl (g i j && g' j k)) :=
  fun _ _ _ _ _ ev Q q => (pe_chain ho ho' pe_w pe_w pe_w hm).w (ha _ _ _ _ _ ev _ fun x Hb1 H1 e1 x1 r1 => hb _ _ _ _ _ e1 _ fun y Hb2 H2 e2 x2 r2 => by
    obtain rfl := r1.int
    obtain rfl := r2.int
    refine ⟨i, j, rfl, rfl, g i j, rfl, ?_⟩
    cases hg : g i j with
    | true =>
      rw [if_pos rfl]
      refine hc _ _ _ _ _ e2 _ fun z Hb3 H3 e3 x3 r3 => ⟨j, k, rfl, r3.int, q _ Hb3 H3 e3 ((x1.trans x2).trans x3) ?_⟩
      rw [hg, Bool.true_and]; exact rep_bl
    | false =>
      rw [if_neg Bool.false_ne_true]
      refine q _ Hb2 H2 e2 (x1.trans x2) ?_
      rw [hg, Bool.false_and]; exact rep_bl)
theorem pd_lele (ha : PD X ρ a ρ1 (.int i)) (hb : PD X ρ1 b ρ2 (.int j)) (hc : PD X ρ2 c ρ2 (.int k)) (hm : lastMarks [.LtE, .LtE] [b, c] = false := by with_unfolding_all rfl) : PD X ρ (.Compare a [.LtE, .LtE] [b, c] pos) ρ2 (.bl (decide (i ≤ j) && decide (j ≤ k))) := pd_chain op_le op_le ha hb hc hm
theorem pd_lelt (ha : PD X ρ a ρ1 (.int i)) (hb : PD X ρ1 b ρ2 (.int j)) (hc : PD X ρ2 c ρ2 (.int k)) (hm : lastMarks [.LtE, .Lt] [b, c] = false := by with_unfolding_all rfl) : PD X ρ (.Compare a [.LtE, .Lt] [b, c] pos) ρ2 (.bl (decide (i ≤ j) && decide (j < k))) := pd_chain op_le op_lt ha hb hc hm
/-- is None, is not None -/
def isNon : D → Bool
  | .non => true
  | _ => false
theorem rep_isNon {B : Bs} {H : Hp} {d : D} {v : V} (r : Rep B H d v) : decide (v = .non) = isNon d := by
  cases d <;> rw [Rep] at r
  · subst r; rfl
  · subst r; rfl
  · subst r; rfl
  · obtain ⟨_, _, rfl, _⟩ := r; rfl
  · obtain ⟨_, _, rfl, _⟩ := r; rfl
  · obtain ⟨_, _, _, rfl, _⟩ := r; rfl
  · obtain ⟨_, _, _, _, rfl, _⟩ := r; rfl
  · obtain ⟨_, rfl, _⟩ := r; rfl
theorem pd_isN {j : Nat} {pos' : Pos} (ha : PD X ρ a ρ1 d) : PD X ρ (.Compare a [.Is] [.Constant .none j pos'] pos) ρ1 (.bl (isNon d)) :=
  fun _ _ _ _ _ ev Q q => (pe_cmpR op_isN pe_w pe_non (nomark _)).w (ha _ _ _ _ _ ev _ fun x Hb1 H1 e1 x1 r1 => ⟨rfl, by rw [rep_isNon r1]; exact q _ Hb1 H1 e1 x1 rep_bl⟩)
theorem pd_notN {j : Nat} {pos' : Pos} (ha : PD X ρ a ρ1 d) : PD X ρ (.Compare a [.IsNot] [.Constant .none j pos'] pos) ρ1 (.bl (!isNon d)) :=
  fun _ _ _ _ _ ev Q q => (pe_cmpR op_notN pe_w pe_non (nomark _)).w (ha _ _ _ _ _ ev _ fun x Hb1 H1 e1 x1 r1 => ⟨rfl, by rw [rep_isNon r1]; exact q _ Hb1 H1 e1 x1 rep_bl⟩)
/-! ### comparisons as tests -/
theorem pt_cmpI {op : CmpOp} {g : Int → Int → Bool} (ho : OpR X (compareOp op) (rI0 fun i j => .bl (g i j))) (ha : PD X ρ a ρ1 (.int i)) (hb : PD X ρ1 b ρ2 (.int j)) (hm : behindInMarks op b = false) : PTD X ρ (.Compare a [op] [b] pos) ρ2 (g i j) :=
  fun _ _ _ _ _ ev Q q => (pt_cmpR ho pe_w pe_w hm).w (ha _ _ _ _ _ ev _ fun x Hb1 H1 e1 x1 r1 => hb _ _ _ _ _ e1 _ fun y Hb2 H2 e2 x2 r2 => ⟨i, j, r1.int, r2.int, _, rfl, q Hb2 H2 e2 (x1.trans x2)⟩)
theorem pt_lt (ha : PD X ρ a ρ1 (.int i)) (hb : PD X ρ1 b ρ2 (.int j)) : PTD X ρ (.Compare a [.Lt] [b] pos) ρ2 (decide (i < j)) := pt_cmpI op_lt ha hb (nomark _)
theorem pt_le (ha : PD X ρ a ρ1 (.int i)) (hb : PD X ρ1 b ρ2 (.int j)) : PTD X ρ (.Compare a [.LtE] [b] pos) ρ2 (decide (i ≤ j)) := pt_cmpI op_le ha hb (nomark _)
theorem pt_gt (ha : PD X ρ a ρ1 (.int i)) (hb : PD X ρ1 b ρ2 (.int j)) : PTD X ρ (.Compare a [.Gt] [b] pos) ρ2 (decide (j < i)) := pt_cmpI op_gt ha hb (nomark _)
theorem pt_ge (ha : PD X ρ a ρ1 (.int i)) (hb : PD X ρ1 b ρ2 (.int j)) : PTD X ρ (.Compare a [.GtE] [b] pos) ρ2 (decide (j ≤ i)) := pt_cmpI op_ge ha hb (nomark _)
theorem pt_eq (ha : PD X ρ a ρ1 (.int i)) (hb : PD X ρ1 b ρ2 (.int j)) : PTD X ρ (.Compare a [.Eq] [b] pos) ρ2 (decide (i = j)) :=
  fun _ _ _ _ _ ev Q q => (pt_cmpR op_eq pe_w pe_w (nomark _)).w (ha _ _ _ _ _ ev _ fun x Hb1 H1 e1 x1 r1 => hb _ _ _ _ _ e1 _ fun y Hb2 H2 e2 x2 r2 => by
    obtain rfl := r1.int
    obtain rfl := r2.int
    exact ⟨rfl, _, rfl, by rw [decV]; exact q Hb2 H2 e2 (x1.trans x2)⟩)
theorem pt_ne (ha : PD X ρ a ρ1 (.int i)) (hb : PD X ρ1 b ρ2 (.int j)) : PTD X ρ (.Compare a [.NotEq] [b] pos) ρ2 (!decide (i = j)) :=
  fun _ _ _ _ _ ev Q q => (pt_cmpR op_ne pe_w pe_w (nomark _)).w (ha _ _ _ _ _ ev _ fun x Hb1 H1 e1 x1 r1 => hb _ _ _ _ _ e1 _ fun y Hb2 H2 e2 x2 r2 => by
    obtain rfl := r1.int
    obtain rfl := r2.int
    exact ⟨rfl, _, rfl, by rw [decV]; exact q Hb2 H2 e2 (x1.trans x2)⟩)
theorem pt_chain {op op' : CmpOp} {g g' : Int → Int → Bool} (ho : OpR X (compareOp op) (rI0 fun i j => .bl (g i j))) (ho' : OpR X (compareOp op') (rI0 fun i j => .bl (g' i j)))
    (ha : PD X ρ a ρ1 (.int i)) (hb : PD X ρ1 b ρ2 (.int j)) (hc : PD X ρ2 c ρ2 (.int k)) (hm : lastMarks [op, op'] [b, c] = false := by with_unfolding_all rfl) :
    PTD X ρ (.Compare a [op, op'] [b, c] pos) ρ2 (g i j && g' j k) :=
  fun _ _ _ _ _ ev Q q => (L2.pt_chain ho ho' pe_w pe_w pe_w hm).w (ha _ _ _ _ _ ev _ fun x Hb1 H1 e1 x1 r1 => hb _ _ _ _ _ e1 _ fun y Hb2 H2 e2 x2 r2 => by
    obtain rfl := r1.int
    obtain rfl := r2.int
    refine ⟨i, j, rfl, rfl, g i j, rfl, ?_⟩
    cases hg : g i j with
    | true =>
      rw [if_pos rfl]
      refine hc _ _ _ _ _ e2 _ fun z Hb3 H3 e3 x3 r3 => ⟨j, k, rfl, r3.int, _, rfl, ?_⟩
      have := q Hb3 H3 e3 ((x1.trans x2).trans x3)
      rw [hg, Bool.true_and] at this; exact this
    | false =>
      rw [if_neg Bool.false_ne_true]
      have := q Hb2 H2 e2 (x1.trans x2)
      rw [hg, Bool.false_and] at this; exact ⟨_, rfl, this⟩)
theorem pt_lele (ha : PD X ρ a ρ1 (.int i)) (hb : PD X ρ1 b ρ2 (.int j)) (hc : PD X ρ2 c ρ2 (.int k)) (hm : lastMarks [.LtE, .LtE] [b, c] = false := by with_unfolding_all rfl) : PTD X ρ (.Compare a [.LtE, .LtE] [b, c] pos) ρ2 (decide (i ≤ j) && decide (j ≤ k)) := pt_chain op_le op_le ha hb hc hm
theorem pt_lelt (ha : PD X ρ a ρ1 (.int i)) (hb : PD X ρ1 b ρ2 (.int j)) (hc : PD X ρ2 c ρ2 (.int k)) (hm : lastMarks [.LtE, .Lt] [b, c] = false := by with_unfolding_all rfl) : PTD X ρ (.Compare a [.LtE, .Lt] [b, c] pos) ρ2 (decide (i ≤ j) && decide (j < k)) := pt_chain op_le op_lt ha hb hc hm
theorem pt_isN {j : Nat} {pos' : Pos} (ha : PD X ρ a ρ1 d) : PTD X ρ (.Compare a [.Is] [.Constant .none j pos'] pos) ρ1 (isNon d) :=
  fun _ _ _ _ _ ev Q q => (pt_cmpR op_isN pe_w pe_non (nomark _)).w (ha _ _ _ _ _ ev _ fun x Hb1 H1 e1 x1 r1 => ⟨rfl, _, rfl, by rw [rep_isNon r1]; exact q Hb1 H1 e1 x1⟩)
theorem pt_notN {j : Nat} {pos' : Pos} (ha : PD X ρ a ρ1 d) : PTD X ρ (.Compare a [.IsNot] [.Constant .none j pos'] pos) ρ1 (!isNon d) :=
  fun _ _ _ _ _ ev Q q => (pt_cmpR op_notN pe_w pe_non (nomark _)).w (ha _ _ _ _ _ ev _ fun x Hb1 H1 e1 x1 r1 => ⟨rfl, _, rfl, by rw [rep_isNon r1]; exact q Hb1 H1 e1 x1⟩)
/-! ### tests -/
theorem PD.t {b : Bool} (h : PD X ρ e ρ' (.bl b)) (he : ∀ whole, isTrue e X.env whole = (do let v ← whole; standAt e.pos; holding [v] (truthy v)) := by intro _; rfl) : PTD X ρ e ρ' b :=
  fun _ _ _ _ _ ev Q q => (pt_val pe_w he).w (h _ _ _ _ _ ev _ fun v Hb' H' ev' x r => ⟨b, r.bl, q Hb' H' ev' x⟩)
theorem pt_and2 {p q : Bool} (ha : PTD X ρ a ρ1 p) (hb : p = true → PTD X ρ1 b ρ1 q) : PTD X ρ (.BoolOp .And [a, b] pos) ρ1 (p && q) := fun _ _ _ _ _ ev Q k =>
  (PW.pt (pw_and pt_w (pw_and1 pt_w))).w (ha _ _ _ _ _ ev _ fun Hb1 H1 e1 x1 => by
    cases p with
    | true => rw [if_pos rfl]; exact hb rfl _ _ _ _ _ e1 _ fun Hb2 H2 e2 x2 => k Hb2 H2 e2 (x1.trans x2)
    | false => rw [if_neg Bool.false_ne_true]; exact k Hb1 H1 e1 x1)
theorem pt_or2 {p q : Bool} (ha : PTD X ρ a ρ1 p) (hb : p = false → PTD X ρ1 b ρ1 q) : PTD X ρ (.BoolOp .Or [a, b] pos) ρ1 (p || q) := fun _ _ _ _ _ ev Q k =>
  (PW.pt (pw_or pt_w (pw_or1 pt_w))).w (ha _ _ _ _ _ ev _ fun Hb1 H1 e1 x1 => by
    cases p with
    | true => rw [if_pos rfl]; exact k Hb1 H1 e1 x1
    | false => rw [if_neg Bool.false_ne_true]; exact hb rfl _ _ _ _ _ e1 _ fun Hb2 H2 e2 x2 => k Hb2 H2 e2 (x1.trans x2))
theorem pt_or3 {p q r : Bool} (ha : PTD X ρ a ρ1 p) (hb : p = false → PTD X ρ1 b ρ1 q) (hc : p = false → q = false → PTD X ρ1 c ρ1 r) : PTD X ρ (.BoolOp .Or [a, b, c] pos) ρ1 (p || q || r) := fun _ _ _ _ _ ev Q k =>
  (PW.pt (pw_or pt_w (pw_or pt_w (pw_or1 pt_w)))).w (ha _ _ _ _ _ ev _ fun Hb1 H1 e1 x1 => by
    cases p with
    | true => rw [if_pos rfl]; exact k Hb1 H1 e1 x1
    | false =>
      rw [if_neg Bool.false_ne_true]
      refine hb rfl _ _ _ _ _ e1 _ fun Hb2 H2 e2 x2 => ?_
      cases q with
      | true => rw [if_pos rfl]; exact k Hb2 H2 e2 (x1.trans x2)
      | false => rw [if_neg Bool.false_ne_true]; exact hc rfl rfl _ _ _ _ _ e2 _ fun Hb3 H3 e3 x3 => k Hb3 H3 e3 ((x1.trans x2).trans x3))
theorem pt_or4 {p q r u : Bool} {f : Expr} (ha : PTD X ρ a ρ1 p) (hb : p = false → PTD X ρ1 b ρ1 q) (hc : p = false → q = false → PTD X ρ1 c ρ1 r) (hf : p = false → q = false → r = false → PTD X ρ1 f ρ1 u) :
    PTD X ρ (.BoolOp .Or [a, b, c, f] pos) ρ1 (p || q || r || u) := fun _ _ _ _ _ ev Q k =>
  (PW.pt (pw_or pt_w (pw_or pt_w (pw_or pt_w (pw_or1 pt_w))))).w (ha _ _ _ _ _ ev _ fun Hb1 H1 e1 x1 => by
    cases p with
    | true => rw [if_pos rfl]; exact k Hb1 H1 e1 x1
    | false =>
      rw [if_neg Bool.false_ne_true]
      refine hb rfl _ _ _ _ _ e1 _ fun Hb2 H2 e2 x2 => ?_
      cases q with
      | true => rw [if_pos rfl]; exact k Hb2 H2 e2 (x1.trans x2)
      | false =>
        rw [if_neg Bool.false_ne_true]
        refine hc rfl rfl _ _ _ _ _ e2 _ fun Hb3 H3 e3 x3 => ?_
        cases r with
        | true => rw [if_pos rfl]; exact k Hb3 H3 e3 ((x1.trans x2).trans x3)
        | false => rw [if_neg Bool.false_ne_true]; exact hf rfl rfl rfl _ _ _ _ _ e3 _ fun Hb4 H4 e4 x4 => k Hb4 H4 e4 (((x1.trans x2).trans x3).trans x4))
theorem pt_not {p : Bool} (ha : PTD X ρ a ρ1 p) : PTD X ρ (.UnaryOp .Not a pos) ρ1 (!p) := fun _ _ _ _ _ ev Q k => (L2.pt_not pt_w).w (ha _ _ _ _ _ ev _ fun Hb1 H1 e1 x1 => k Hb1 H1 e1 x1)
theorem PTD.is {p q : Bool} (h : PTD X ρ a ρ1 p) (e : p = q) : PTD X ρ a ρ1 q := e ▸ h
theorem PD.is (h : PD X ρ a ρ1 x) (e : x = y) : PD X ρ a ρ1 y := e ▸ h
theorem PL.is {o o' : O} (h : PL X ρ a ρ1 o) (e : o = o') : PL X ρ a ρ1 o' := e ▸ h
/-- and, or, not as values, over truth values -/
theorem pd_and2 {p q : Bool} (ha : PD X ρ a ρ1 (.bl p)) (hb : p = true → PD X ρ1 b ρ1 (.bl q)) : PD X ρ (.BoolOp .And [a, b] pos) ρ1 (.bl (p && q)) := fun _ _ _ _ _ ev Q k =>
  (pe_and pe_w (pe_one pe_w)).w (ha _ _ _ _ _ ev _ fun x Hb1 H1 e1 x1 r1 => ⟨p, r1.bl, by
    cases p with
    | true => rw [if_pos rfl]; exact hb rfl _ _ _ _ _ e1 _ fun y Hb2 H2 e2 x2 r2 => k _ Hb2 H2 e2 (x1.trans x2) r2
    | false => rw [if_neg Bool.false_ne_true]; exact k _ Hb1 H1 e1 x1 rep_bl⟩)
theorem pd_and4 {p q r u : Bool} {f : Expr} (ha : PD X ρ a ρ1 (.bl p)) (hb : p = true → PD X ρ1 b ρ1 (.bl q)) (hc : p = true → q = true → PD X ρ1 c ρ1 (.bl r)) (hf : p = true → q = true → r = true → PD X ρ1 f ρ1 (.bl u)) :
    PD X ρ (.BoolOp .And [a, b, c, f] pos) ρ1 (.bl (p && q && r && u)) := fun _ _ _ _ _ ev Q k =>
  (pe_and pe_w (pe_and pe_w (pe_and pe_w (pe_one pe_w)))).w (ha _ _ _ _ _ ev _ fun x Hb1 H1 e1 x1 r1 => ⟨p, r1.bl, by
    cases p with
    | false => rw [if_neg Bool.false_ne_true]; exact k _ Hb1 H1 e1 x1 rep_bl
    | true =>
      rw [if_pos rfl]
      refine hb rfl _ _ _ _ _ e1 _ fun y Hb2 H2 e2 x2 r2 => ⟨q, r2.bl, ?_⟩
      cases q with
      | false => rw [if_neg Bool.false_ne_true]; exact k _ Hb2 H2 e2 (x1.trans x2) rep_bl
      | true =>
        rw [if_pos rfl]
        refine hc rfl rfl _ _ _ _ _ e2 _ fun z Hb3 H3 e3 x3 r3 => ⟨r, r3.bl, ?_⟩
        cases r with
        | false => rw [if_neg Bool.false_ne_true]; exact k _ Hb3 H3 e3 ((x1.trans x2).trans x3) rep_bl
        | true => rw [if_pos rfl]; exact hf rfl rfl rfl _ _ _ _ _ e3 _ fun w Hb4 H4 e4 x4 r4 => k _ Hb4 H4 e4 (((x1.trans x2).trans x3).trans x4) r4⟩)
theorem pd_or2 {p q : Bool} (ha : PD X ρ a ρ1 (.bl p)) (hb : p = false → PD X ρ1 b ρ1 (.bl q)) : PD X ρ (.BoolOp .Or [a, b] pos) ρ1 (.bl (p || q)) := fun _ _ _ _ _ ev Q k =>
  (pe_or pe_w (pe_one pe_w)).w (ha _ _ _ _ _ ev _ fun x Hb1 H1 e1 x1 r1 => ⟨p, r1.bl, by
    cases p with
    | false => rw [if_neg Bool.false_ne_true]; exact hb rfl _ _ _ _ _ e1 _ fun y Hb2 H2 e2 x2 r2 => k _ Hb2 H2 e2 (x1.trans x2) r2
    | true => rw [if_pos rfl]; exact k _ Hb1 H1 e1 x1 rep_bl⟩)
theorem pd_not {p : Bool} (ha : PD X ρ a ρ1 (.bl p)) : PD X ρ (.UnaryOp .Not a pos) ρ1 (.bl (!p)) := fun _ _ _ _ _ ev Q k =>
  (pe_not pe_w).w (ha _ _ _ _ _ ev _ fun x Hb1 H1 e1 x1 r1 => ⟨p, r1.bl, k _ Hb1 H1 e1 x1 rep_bl⟩)
theorem pd_ifexp {p : Bool} (hc : PTD X ρ c ρ1 p) (ha : p = true → PD X ρ1 a ρ2 d) (hb : p = false → PD X ρ1 b ρ2 d) : PD X ρ (.IfExp c a b pos) ρ2 d := fun _ _ _ _ _ ev Q k =>
  (pe_ifExp pt_w pe_w pe_w).w (hc _ _ _ _ _ ev _ fun Hb1 H1 e1 x1 => by
    cases p with
    | true => rw [if_pos rfl]; exact ha rfl _ _ _ _ _ e1 _ fun v Hb2 H2 e2 x2 r => k v Hb2 H2 e2 (x1.trans x2) r
    | false => rw [if_neg Bool.false_ne_true]; exact hb rfl _ _ _ _ _ e1 _ fun v Hb2 H2 e2 x2 r => k v Hb2 H2 e2 (x1.trans x2) r)
theorem pl_ifexp {p : Bool} {o : O} (hc : PTD X ρ c ρ1 p) (ha : p = true → PL X ρ1 a ρ2 o) (hb : p = false → PL X ρ1 b ρ2 o) : PL X ρ (.IfExp c a b pos) ρ2 o := fun _ _ _ _ _ ev Q k =>
  (pe_ifExp pt_w pe_w pe_w).w (hc _ _ _ _ _ ev _ fun Hb1 H1 e1 x1 => by
    cases p with
    | true => rw [if_pos rfl]; exact ha rfl _ _ _ _ _ e1 _ fun l Hb2 H2 ho e2 x2 => k l Hb2 H2 ho e2 (x1.trans x2)
    | false => rw [if_neg Bool.false_ne_true]; exact hb rfl _ _ _ _ _ e1 _ fun l Hb2 H2 ho e2 x2 => k l Hb2 H2 ho e2 (x1.trans x2))
/-! ### argument lists, displays -/
theorem pad_nil : PAD X ρ [] ρ [] := fun _ _ _ Hb H ev Q q => pa_nil.w (q _ Hb H ev (Ex.refl _) .nil)
theorem pad_cons (ha : PD X ρ e ρ1 d) (hr : PAD X ρ1 es ρ2 ds) (hs : starEach (e :: es) X.env = (false, eval e X.env) :: starEach es X.env := by rfl) : PAD X ρ (e :: es) ρ2 (d :: ds) := fun _ _ _ _ _ ev Q q =>
  (pa_cons pe_w pa_w hs).w (ha _ _ _ _ _ ev _ fun v Hb1 H1 e1 x1 r1 => hr _ _ _ _ _ e1 _ fun vs Hb2 H2 e2 x2 r2 => q _ Hb2 H2 e2 (x1.trans x2) (.cons (Rep.mono x2 _ _ r1) r2))
theorem pad_starT {p : Pos} {xs : List D} (ha : PD X ρ e ρ1 (.tup xs)) (hr : PAD X ρ1 es ρ2 ds) (hs : starEach (.Starred e p :: es) X.env = (true, eval e X.env) :: starEach es X.env := by rfl) : PAD X ρ (.Starred e p :: es) ρ2 (xs ++ ds) := fun _ _ _ _ _ ev Q q =>
  (StX.pa_star pe_w pa_w hs).w (ha _ _ _ _ _ ev _ fun v Hb1 H1 e1 x1 r1 => by
    obtain ⟨t, vs, rfl, ht, rr⟩ := r1.tup
    exact ⟨t, vs, rfl, .inl (e1.sub.sqt ht), hr _ _ _ _ _ e1 _ fun ws Hb2 H2 e2 x2 r2 => q _ Hb2 H2 e2 (x1.trans x2) ((Reps.mono x2 _ _ rr).append r2)⟩)
theorem pad_starL {p : Pos} {xs : List D} (ha : PD X ρ e ρ1 (.lst xs)) (hr : PAD X ρ1 es ρ2 ds) (hs : starEach (.Starred e p :: es) X.env = (true, eval e X.env) :: starEach es X.env := by rfl) : PAD X ρ (.Starred e p :: es) ρ2 (xs ++ ds) := fun _ _ _ _ _ ev Q q =>
  (StX.pa_star pe_w pa_w hs).w (ha _ _ _ _ _ ev _ fun v Hb1 H1 e1 x1 r1 => by
    obtain ⟨t, vs, rfl, ht, rr⟩ := r1.lst
    exact ⟨t, vs, rfl, .inr (SqL.of (e1.sub _ _ ht)), hr _ _ _ _ _ e1 _ fun ws Hb2 H2 e2 x2 r2 => q _ Hb2 H2 e2 (x1.trans x2) ((Reps.mono x2 _ _ rr).append r2)⟩)
theorem lenOk {α : Type} {l : List α} (h : Nat.ble l.length 100000 = true) : l.length ≤ sizeLine := Nat.le_trans (Nat.le_of_ble_eq_true h) (by decide)
theorem pd_tup {k : Nat} (h : PAD X ρ es ρ1 ds) (hl : ds.length ≤ sizeLine) : PD X ρ (.Tuple es k pos) ρ1 (.tup ds) := fun _ _ _ _ _ ev Q q =>
  (pe_tup pa_w).w (h _ _ _ _ _ ev _ fun vs Hb1 H1 e1 x1 r1 => ⟨by rw [← r1.length]; exact hl, fun p hp => q _ _ _ (e1.new hp) (x1.trans (Ex.new (e1.sub.free hp))) (rep_tup (SqT.of upd_same) (Reps.mono (Ex.new (e1.sub.free hp)) _ _ r1))⟩)
theorem pl_lst (h : PAD X ρ es ρ1 ds) (hl : ds.length ≤ sizeLine) : PL X ρ (.List es pos) ρ1 (.lst ds) := fun _ _ _ _ _ ev Q q =>
  (pe_lst pa_w).w (h _ _ _ _ _ ev _ fun vs Hb1 H1 e1 x1 r1 => ⟨by rw [← r1.length]; exact hl, fun p hp =>
    q p Hb1 _ (.lst vs) (e1.newO hp) x1 (e1.sub.free hp) (e1.ex1.free hp) upd_same ⟨vs, rfl, r1⟩ (e1.notOwn hp)⟩)
/-! ### subscripts -/
def atD : D → Int → Option D
  | .tup ds, i => atI ds i
  | .lst ds, i => atI ds i
  | .scr ns, i => (atI ns i).map .int
  | _, _ => none
theorem atI_reps {B : Bs} {H : Hp} {ds : List D} {vs : List V} (r : Reps B H ds vs) {i : Int} {d : D} (h : atI ds i = some d) : ∃ v, atI vs i = some v ∧ Rep B H d v := by
  unfold atI at h ⊢
  rw [← r.length]
  cases e : ixN ds.length i with
  | none => rw [e] at h; cases h
  | some j =>
    rw [e] at h
    obtain ⟨v, h1, h2⟩ := r.get (show ds[j]? = some d from h)
    exact ⟨v, h1, h2⟩
theorem pd_at (ha : PD X ρ a ρ1 x) (hb : PD X ρ1 b ρ2 (.int i)) (h : atD x i = some d) (hs : PlainIx b := by intro _ _; rfl) : PD X ρ (.Subscript a b pos) ρ2 d := by
  cases x with
  | tup ds =>
    exact fun _ _ _ _ _ ev Q q => (pe_ix ix_tup pe_w pe_w hs).w (ha _ _ _ _ _ ev _ fun v Hb1 H1 e1 x1 r1 => by
      obtain ⟨t, vs, rfl, ht, rr⟩ := r1.tup
      obtain ⟨w, h1, h2⟩ := atI_reps rr h
      exact hb _ _ _ _ _ e1 _ fun y Hb2 H2 e2 x2 r2 => ⟨t, vs, i, w, rfl, r2.int, e2.sub.sqt (x2.sqt ht), h1, q _ Hb2 H2 e2 (x1.trans x2) (Rep.mono x2 _ _ h2)⟩)
  | lst ds =>
    exact fun _ _ _ _ _ ev Q q => (pe_ix ix_list pe_w pe_w hs).w (ha _ _ _ _ _ ev _ fun v Hb1 H1 e1 x1 r1 => by
      obtain ⟨t, vs, rfl, ht, rr⟩ := r1.lst
      obtain ⟨w, h1, h2⟩ := atI_reps rr h
      exact hb _ _ _ _ _ e1 _ fun y Hb2 H2 e2 x2 r2 => ⟨t, vs, i, w, rfl, r2.int, SqL.of (e2.sub _ _ (x2 _ _ ht)), h1, q _ Hb2 H2 e2 (x1.trans x2) (Rep.mono x2 _ _ h2)⟩)
  | scr ns =>
    exact fun _ _ _ _ _ ev Q q => (pe_ix ix_list pe_w pe_w hs).w (ha _ _ _ _ _ ev _ fun v Hb1 H1 e1 x1 r1 => by
      rw [Rep] at r1
      obtain ⟨t, rfl, ht⟩ := r1
      obtain ⟨n, hn, rfl⟩ := Option.map_eq_some_iff.mp (show (atI ns i).map D.int = some d from h)
      have h1 : atI (ns.map V.int) i = some (V.int n) := by
        unfold atI at hn ⊢
        rw [List.length_map]
        cases e : ixN ns.length i with
        | none => rw [e] at hn; cases hn
        | some j =>
          rw [e] at hn
          show (ns.map V.int)[j]? = _
          rw [List.getElem?_map, show ns[j]? = some n from hn]; rfl
      exact hb _ _ _ _ _ e1 _ fun y Hb2 H2 e2 x2 r2 => ⟨t, _, i, _, rfl, r2.int, e2.sub.sql (x2.sql ht), h1, q _ Hb2 H2 e2 (x1.trans x2) rep_int⟩)
  | _ => cases h
/-- .. of a list of one's own -/
theorem pd_atO (n : Nat) {x : Str} {l : Addr} {p : Pos} (hd : ρ1[n]? = some (.own l (.lst ds))) (hb : PD X ρ b ρ1 (.int i)) (h : atI ds i = some d) (he : ρ[n]? = some (.own l (.lst ds))) (hs : PlainIx b := by intro _ _; rfl)
    (hN : X.N[n]? = some x := by rfl) (hv : Vis X.env.scope x := by first | exact Or.inl rfl | exact Or.inr (Or.inl rfl) | exact Or.inr (Or.inr rfl)) (h1 : (x == ("__debug__" : Str)) = false := by decide) (h2 : (x == ("__classdict__" : Str)) = false := by decide) :
    PD X ρ (.Subscript (.Name x p) b pos) ρ1 d := fun _ _ _ _ _ ev Q q => (pe_ix ix_list (pe_var hN hv h1 h2) pe_w hs).w ⟨.ref l, (ev.own n l _ he).1, hb _ _ _ _ _ ev _ fun y Hb2 H2 e2 x2 r2 => by
    obtain ⟨_, _, _, ho, h4, vs, rfl, rr⟩ := e2.own n l _ hd
    obtain ⟨w, k1, k2⟩ := atI_reps rr h
    exact ⟨l, vs, i, w, rfl, r2.int, SqL.of h4, k1, q _ Hb2 H2 e2 x2 k2⟩⟩
end
end WL
set_option Elab.async false
set_option linter.all false
set_option maxRecDepth 100000
set_option maxHeartbeats 4000000
namespace WL
open PySem PySem.Spec PyProof.Rows L2
section
variable {X : Cx} {ρ ρ' ρ1 ρ2 ρ3 ρ4 : List E} {e a b c : Expr} {es : List Expr} {pos p : Pos} {d x y z : D} {ds xs : List D} {i j k : Int}
/-! ### slices -/
def cutD (xs : List D) (lo hi : Option Int) : List D := (xs.drop (HT.sIx xs.length 0 lo)).take (HT.sIx xs.length xs.length hi - HT.sIx xs.length 0 lo)
theorem Reps.cut {B : Bs} {H : Hp} {ds : List D} {vs : List V} (r : Reps B H ds vs) (lo hi : Option Int) : Reps B H (cutD ds lo hi) (cutV vs lo hi) := by
  unfold cutD cutV
  rw [← r.length]
  exact (r.drop _).take _
theorem Reps.ref {B : Bs} {H : Hp} {t : Addr} {d : D} {vs : List V} (h : Reps B H [d] vs) : ∃ v, vs = [v] ∧ Rep B H d v := by
  rw [Reps] at h
  obtain ⟨v, vs', rfl, r, t⟩ := h
  rw [Reps] at t
  subst t
  exact ⟨v, rfl, r⟩
theorem Reps.one {B : Bs} {H : Hp} {d : D} {vs : List V} (h : Reps B H [d] vs) : ∃ v, vs = [v] ∧ Rep B H d v := by
  rw [Reps] at h
  obtain ⟨v, vs', rfl, r, t⟩ := h
  rw [Reps] at t
  subst t
  exact ⟨v, rfl, r⟩
theorem Reps.two {B : Bs} {H : Hp} {d d2 : D} {vs : List V} (h : Reps B H [d, d2] vs) : ∃ v w, vs = [v, w] ∧ Rep B H d v ∧ Rep B H d2 w := by
  rw [Reps] at h
  obtain ⟨v, vs', rfl, r, t⟩ := h
  obtain ⟨w, rfl, r2⟩ := t.one
  exact ⟨v, w, rfl, r, r2⟩
/-- an optional bound of a slice -/
def POD (X : Cx) (ρ : List E) (o : Option Expr) (l : Option Int) : Prop := (o = none ∧ l = none) ∨ ∃ e i, o = some e ∧ l = some i ∧ PD X ρ e ρ (.int i)
theorem pod_none : POD X ρ none none := .inl ⟨rfl, rfl⟩
theorem pod_some (h : PD X ρ e ρ (.int i)) : POD X ρ (some e) (some i) := .inr ⟨e, i, rfl, rfl, h⟩
theorem POD.part {o : Option Expr} {l : Option Int} (h : POD X ρ o l) : ∃ t, PO X o t ∧ ∀ Hb0 H0 σ Hb H, EnvS (bs X) Hb0 H0 ρ σ Hb H → ∀ Q : Option Int → Hp → Prop, (∀ Hb' H', EnvS (bs X) Hb0 H0 ρ σ Hb' H' → Ex Hb Hb' → Q l H') → t σ H Q := by
  rcases h with ⟨rfl, rfl⟩ | ⟨e, i, rfl, rfl, h⟩
  · exact ⟨_, po_none, fun _ _ _ Hb H ev Q q => q Hb H ev (Ex.refl _)⟩
  · exact ⟨_, po_some pe_w, fun _ _ _ Hb H ev Q q => h _ _ _ _ _ ev _ fun v Hb' H' e' x r => ⟨i, r.int, q Hb' H' e' x⟩⟩
theorem pl_cut {lo hi : Option Expr} {l h : Option Int} {p2 : Pos} (ha : PD X ρ a ρ1 (.lst xs)) (hl : POD X ρ1 lo l) (hh : POD X ρ1 hi h) : PL X ρ (.Subscript a (.Slice lo hi none p2) pos) ρ1 (.lst (cutD xs l h)) := by
  obtain ⟨t1, p1, q1⟩ := hl.part
  obtain ⟨t2, p2', q2⟩ := hh.part
  exact fun _ _ _ _ _ ev Q q => (pe_slice sl_list pe_w p1 p2').w (ha _ _ _ _ _ ev _ fun v Hb1 H1 e1 x1 r1 => q1 _ _ _ _ _ e1 _ fun Hb2 H2 e2 x2 => q2 _ _ _ _ _ e2 _ fun Hb3 H3 e3 x3 => by
    obtain ⟨t, vs, rfl, ht, rr⟩ := r1.lst
    refine ⟨t, vs, rfl, SqL.of (e3.sub _ _ (x3 _ _ (x2 _ _ ht))), fun n hn => ?_⟩
    exact q n Hb3 _ _ (e3.newO hn) ((x1.trans x2).trans x3) (e3.sub.free hn) (e3.ex1.free hn) upd_same ⟨_, rfl, (Reps.mono (x2.trans x3) _ _ rr).cut l h⟩ (e3.notOwn hn))
theorem pd_cutT {lo hi : Option Expr} {l h : Option Int} {p2 : Pos} (ha : PD X ρ a ρ1 (.tup xs)) (hl : POD X ρ1 lo l) (hh : POD X ρ1 hi h) : PD X ρ (.Subscript a (.Slice lo hi none p2) pos) ρ1 (.tup (cutD xs l h)) := by
  obtain ⟨t1, p1, q1⟩ := hl.part
  obtain ⟨t2, p2', q2⟩ := hh.part
  exact fun _ _ _ _ _ ev Q q => (pe_slice sl_tupA pe_w p1 p2').w (ha _ _ _ _ _ ev _ fun v Hb1 H1 e1 x1 r1 => q1 _ _ _ _ _ e1 _ fun Hb2 H2 e2 x2 => q2 _ _ _ _ _ e2 _ fun Hb3 H3 e3 x3 => by
    obtain ⟨t, vs, rfl, ht, rr⟩ := r1.tup
    have rr3 := Reps.mono (x2.trans x3) _ _ rr
    have ht3 := (x2.trans x3).sqt ht
    refine ⟨t, vs, rfl, e3.sub.sqt ht3, fun hw => ?_, fun _ n hn => ?_⟩
    · refine q _ Hb3 H3 e3 ((x1.trans x2).trans x3) (rep_tup ht3 ?_)
      have e1 : cutD xs l h = xs := by
        unfold cutD
        rw [rr.length, hw.1, hw.2, List.drop_zero, ← rr.length]
        exact List.take_of_length_le (by omega)
      rw [e1]; exact rr3
    · exact q _ _ _ (e3.new hn) (((x1.trans x2).trans x3).trans (Ex.new (e3.sub.free hn))) (rep_tup (SqT.of upd_same) ((Reps.mono (Ex.new (e3.sub.free hn)) _ _ rr3).cut l h)))
/-! ### attributes of instances -/
theorem lookup_zip {B : Bs} {H : Hp} : ∀ {ns : List Str} {ds : List D} {vs : List V} {f : Str} {d : D}, Reps B H ds vs → (ns.zip ds).lookup f = some d → ∃ v, (ns.zip vs).lookup f = some v ∧ Rep B H d v
  | [], _, _, _, _, _, h => by simp at h
  | _ :: _, [], _, _, _, _, h => by simp at h
  | n :: ns, x :: ds, vs, f, d, r, h => by
    rw [Reps] at r
    obtain ⟨v, vs', rfl, r1, r2⟩ := r
    rw [List.zip_cons_cons, List.lookup_cons] at h ⊢
    cases e : (f == n) with
    | true => rw [e] at h; cases h; exact ⟨v, rfl, r1⟩
    | false => rw [e] at h; exact lookup_zip r2 h
theorem lookup_none {α β : Type} : ∀ {ns : List Str} {xs : List α} {ys : List β} {f : Str}, xs.length = ys.length → (ns.zip xs).lookup f = none → (ns.zip ys).lookup f = none
  | [], _, _, _, _, _ => by simp
  | _ :: _, [], [], _, _, _ => by simp
  | _ :: _, [], _ :: _, _, h, _ => by simp at h
  | _ :: _, _ :: _, [], _, h, _ => by simp at h
  | n :: ns, x :: xs, y :: ys, f, h, e => by
    rw [List.zip_cons_cons, List.lookup_cons] at e ⊢
    cases q : (f == n) with
    | true => rw [q] at e; cases e
    | false => rw [q] at e; exact lookup_none (by simpa using h) e
theorem pd_fld {C : Addr} {ns : List Str} {f : Str} (ha : PD X ρ a ρ1 (.ins C ns ds)) (c : Cls X.K C) (n : NoAttr X.K C f) (h : (ns.zip ds).lookup f = some d) (hb : attributeBase a f X.env (eval a X.env) = eval a X.env := by rfl) : PD X ρ (.Attribute a f pos) ρ1 d :=
  fun _ _ _ _ _ ev Q q => (pe_fld pe_w hb).w (ha _ _ _ _ _ ev _ fun v Hb1 H1 e1 x1 r1 => by
    obtain ⟨o, dx, vs, rfl, ho, _, rr⟩ := r1.ins
    obtain ⟨w, h1, h2⟩ := lookup_zip rr h
    exact ⟨o, C, dx, _, w, rfl, e1.sub _ _ ho, c, n, h1, q _ Hb1 H1 e1 x1 h2⟩)
/-! ### built-ins by their names -/
theorem pd_cB {id : String} {r : List V → Hp → VK → Prop} {x : Str} (hc : CallR X (.builtin id) r) (hm : X.mg x = none) (hv : bootBuiltins x = some (.builtin id)) (ha : PAD X ρ (e :: es) ρ1 ds)
    (k : ∀ Hb0 H0 σ Hb H, EnvS (bs X) Hb0 H0 ρ1 σ Hb H → ∀ vs, Reps (bs X) Hb ds vs → ∀ Q : VK, (∀ v Hb' H', EnvS (bs X) Hb0 H0 ρ2 σ Hb' H' → Ex Hb Hb' → Rep (bs X) Hb' d v → Q v H') → r vs H Q)
    (hg : Gl X x := by rfl) (hn : x ≠ "__name__" := by decide) (hdb : (x == ("__debug__" : Str)) = false := by decide)
    (he : starEach (e :: es) X.env = (false, eval e X.env) :: starEach es X.env := by rfl) (hpl : (backTo pos (starEach es X.env)).any (·.1) = false := by rfl) : PD X ρ (.Call (.Name x p) (e :: es) [] pos) ρ2 d :=
  fun _ _ _ _ _ ev Q q => (pe_callB hc hg hm hv pa_w hn hdb he hpl).w (ha _ _ _ _ _ ev _ fun vs Hb1 H1 e1 x1 r1 => k _ _ _ _ _ e1 vs r1 Q fun v Hb2 H2 e2 x2 r2 => q v Hb2 H2 e2 (x1.trans x2) r2)
theorem pd_cT {T : String} {r : List V → Hp → VK → Prop} {x : Str} (hc : CallR X (.type T) r) (hm : X.mg x = none) (hv : bootBuiltins x = some (.type T)) (ha : PAD X ρ (e :: es) ρ1 ds)
    (k : ∀ Hb0 H0 σ Hb H, EnvS (bs X) Hb0 H0 ρ1 σ Hb H → ∀ vs, Reps (bs X) Hb ds vs → ∀ Q : VK, (∀ v Hb' H', EnvS (bs X) Hb0 H0 ρ2 σ Hb' H' → Ex Hb Hb' → Rep (bs X) Hb' d v → Q v H') → r vs H Q)
    (hg : Gl X x := by rfl) (hn : x ≠ "__name__" := by decide) (hdb : (x == ("__debug__" : Str)) = false := by decide)
    (he : starEach (e :: es) X.env = (false, eval e X.env) :: starEach es X.env := by rfl) (hpl : (backTo pos (starEach es X.env)).any (·.1) = false := by rfl) : PD X ρ (.Call (.Name x p) (e :: es) [] pos) ρ2 d :=
  fun _ _ _ _ _ ev Q q => (pe_callTy hc hg hm hv pa_w hn hdb he hpl).w (ha _ _ _ _ _ ev _ fun vs Hb1 H1 e1 x1 r1 => k _ _ _ _ _ e1 vs r1 Q fun v Hb2 H2 e2 x2 r2 => q v Hb2 H2 e2 (x1.trans x2) r2)
theorem pl_cT {T : String} {r : List V → Hp → VK → Prop} {x : Str} {o : O} (hc : CallR X (.type T) r) (hm : X.mg x = none) (hv : bootBuiltins x = some (.type T)) (ha : PAD X ρ (e :: es) ρ1 ds)
    (k : ∀ Hb0 H0 σ Hb H, EnvS (bs X) Hb0 H0 ρ1 σ Hb H → ∀ vs, Reps (bs X) Hb ds vs → ∀ Q : VK, (∀ l Hb' H' ho, EnvS (bs X) Hb0 H0 ρ2 σ Hb' H' → Ex Hb Hb' → Hb' l = none → H0 l = none → H' l = some ho → ORep (bs X) Hb' l o ho → NotOwn ρ2 l → Q (.ref l) H') → r vs H Q)
    (hg : Gl X x := by rfl) (hn : x ≠ "__name__" := by decide) (hdb : (x == ("__debug__" : Str)) = false := by decide)
    (he : starEach (e :: es) X.env = (false, eval e X.env) :: starEach es X.env := by rfl) (hpl : (backTo pos (starEach es X.env)).any (·.1) = false := by rfl) : PL X ρ (.Call (.Name x p) (e :: es) [] pos) ρ2 o :=
  fun _ _ _ _ _ ev Q q => (pe_callTy hc hg hm hv pa_w hn hdb he hpl).w (ha _ _ _ _ _ ev _ fun vs Hb1 H1 e1 x1 r1 => k _ _ _ _ _ e1 vs r1 Q fun l Hb2 H2 ho e2 x2 => q l Hb2 H2 ho e2 (x1.trans x2))
def lenD : D → Option Int
  | .tup ds => some ds.length
  | .lst ds => some ds.length
  | .scr ns => some ns.length
  | _ => none
theorem pd_len (ml : X.mg "len" = none) (ha : PD X ρ a ρ1 x) (h : lenD x = some i) (hg : Gl X "len" := by rfl) (na : starEach [a] X.env = (false, eval a X.env) :: starEach [] X.env := by rfl) : PD X ρ (.Call (.Name "len" p) [a] [] pos) ρ1 (.int i) :=
  pd_cB call_len_seq ml boot_len (pad_cons ha pad_nil na) (fun _ _ _ Hb H ev vs rs Q q => by
    obtain ⟨v, rfl, r⟩ := rs.one
    cases x with
    | tup ds => obtain ⟨t, ws, rfl, ht, rr⟩ := r.tup; cases h; exact ⟨t, ws, rfl, .inr (ev.sub.sqt ht), q _ Hb H ev (Ex.refl _) (by rw [rr.length]; exact rep_int)⟩
    | lst ds => obtain ⟨t, ws, rfl, ht, rr⟩ := r.lst; cases h; exact ⟨t, ws, rfl, .inl (SqL.of (ev.sub _ _ ht)), q _ Hb H ev (Ex.refl _) (by rw [rr.length]; exact rep_int)⟩
    | scr ns => rw [Rep] at r; obtain ⟨t, rfl, ht⟩ := r; cases h; exact ⟨t, _, rfl, .inl (ev.sub.sql ht), q _ Hb H ev (Ex.refl _) (by rw [List.length_map]; exact rep_int)⟩
    | _ => cases h) hg (by decide) (by decide) na
/-- len of a list of one's own -/
theorem pd_lenO (n : Nat) {x : Str} {l : Addr} {p' : Pos} (ml : X.mg "len" = none) (hd : ρ[n]? = some (.own l (.lst ds))) (hg : Gl X "len" := by rfl)
    (hN : X.N[n]? = some x := by rfl) (hv : Vis X.env.scope x := by first | exact Or.inl rfl | exact Or.inr (Or.inl rfl) | exact Or.inr (Or.inr rfl)) (h1 : (x == ("__debug__" : Str)) = false := by decide) (h2 : (x == ("__classdict__" : Str)) = false := by decide)
    (na : starEach [.Name x p'] X.env = (false, eval (.Name x p') X.env) :: starEach [] X.env := by rfl) : PD X ρ (.Call (.Name "len" p) [.Name x p'] [] pos) ρ (.int ds.length) :=
  fun _ _ _ Hb H ev Q q => (pe_callB call_len_seq hg ml boot_len (pa_cons (pe_var hN hv h1 h2) pa_nil na) (by decide) (by decide) na).w (by
    obtain ⟨e1, _, _, ho, h4, vs, rfl, rr⟩ := ev.own n l _ hd
    exact ⟨.ref l, e1, l, vs, rfl, .inl (SqL.of h4), q _ Hb H ev (Ex.refl _) (by rw [rr.length]; exact rep_int)⟩)
theorem pd_abs (m : X.mg "abs" = none) (ha : PD X ρ a ρ1 (.int i)) (hg : Gl X "abs" := by rfl) (na : starEach [a] X.env = (false, eval a X.env) :: starEach [] X.env := by rfl) : PD X ρ (.Call (.Name "abs" p) [a] [] pos) ρ1 (.int (if i < 0 then -i else i)) :=
  pd_cB call_abs m (by decide +kernel) (pad_cons ha pad_nil na) (fun _ _ _ Hb H ev vs rs Q q => by
    obtain ⟨v, rfl, r⟩ := rs.one
    exact ⟨i, by rw [r.int], q _ Hb H ev (Ex.refl _) rep_int⟩) hg (by decide) (by decide) na
theorem pd_min2 (m : X.mg "min" = none) (ha : PD X ρ a ρ1 (.int i)) (hb : PD X ρ1 b ρ2 (.int j)) (hc : X.calm = true := by rfl) (hg : Gl X "min" := by rfl) (na : starEach [a, b] X.env = (false, eval a X.env) :: starEach [b] X.env := by rfl)
    (nb : starEach [b] X.env = (false, eval b X.env) :: starEach [] X.env := by rfl) (hpl : (backTo pos (starEach [b] X.env)).any (·.1) = false := by rfl) : PD X ρ (.Call (.Name "min" p) [a, b] [] pos) ρ2 (.int (if j < i then j else i)) :=
  pd_cB (call_min2 hc) m PyProof.Rows.boot_min (pad_cons ha (pad_cons hb pad_nil nb) na) (fun _ _ _ Hb H ev vs rs Q q => by
    obtain ⟨v, w, rfl, r, r2⟩ := rs.two
    exact ⟨i, j, by rw [r.int, r2.int], q _ Hb H ev (Ex.refl _) rep_int⟩) hg (by decide) (by decide) na hpl
theorem pd_toInt (m : X.mg "int" = none) (ha : PD X ρ a ρ1 (.int i)) (hg : Gl X "int" := by rfl) (na : starEach [a] X.env = (false, eval a X.env) :: starEach [] X.env := by rfl) : PD X ρ (.Call (.Name "int" p) [a] [] pos) ρ1 (.int i) :=
  pd_cT call_int1 m PyProof.Rows.boot_int (pad_cons ha pad_nil na) (fun _ _ _ Hb H ev vs rs Q q => by
    obtain ⟨v, rfl, r⟩ := rs.one
    exact .inl ⟨i, by rw [r.int], q _ Hb H ev (Ex.refl _) rep_int⟩) hg (by decide) (by decide) na
/-- list(a list), list(a tuple) -/
def seqD : D → Option (List D)
  | .tup ds => some ds
  | .lst ds => some ds
  | _ => none
theorem pl_list (m : X.mg "list" = none) (ha : PD X ρ a ρ1 x) (h : seqD x = some ds) (hg : Gl X "list" := by rfl) (na : starEach [a] X.env = (false, eval a X.env) :: starEach [] X.env := by rfl) : PL X ρ (.Call (.Name "list" p) [a] [] pos) ρ1 (.lst ds) :=
  pl_cT call_list_of m PyProof.Rows.boot_list (pad_cons ha pad_nil na) (fun _ _ _ Hb H ev vs rs Q q => by
    obtain ⟨v, rfl, r⟩ := rs.one
    cases x with
    | tup zs =>
      cases h
      obtain ⟨t, ws, rfl, ht, rr⟩ := r.tup
      exact ⟨t, ws, rfl, .inr (ev.sub.sqt ht), fun n hn => q n Hb _ _ (ev.newO hn) (Ex.refl _) (ev.sub.free hn) (ev.ex1.free hn) upd_same ⟨ws, rfl, rr⟩ (ev.notOwn hn)⟩
    | lst zs =>
      cases h
      obtain ⟨t, ws, rfl, ht, rr⟩ := r.lst
      exact ⟨t, ws, rfl, .inl (SqL.of (ev.sub _ _ ht)), fun n hn => q n Hb _ _ (ev.newO hn) (Ex.refl _) (ev.sub.free hn) (ev.ex1.free hn) upd_same ⟨ws, rfl, rr⟩ (ev.notOwn hn)⟩
    | _ => cases h) hg (by decide) (by decide) na
theorem pd_tuple (m : X.mg "tuple" = none) (ha : PD X ρ a ρ1 x) (h : seqD x = some ds) (hg : Gl X "tuple" := by rfl) (na : starEach [a] X.env = (false, eval a X.env) :: starEach [] X.env := by rfl) : PD X ρ (.Call (.Name "tuple" p) [a] [] pos) ρ1 (.tup ds) :=
  pd_cT call_tuple_of m PyProof.Rows.boot_tuple (pad_cons ha pad_nil na) (fun _ _ _ Hb H ev vs rs Q q => by
    obtain ⟨v, rfl, r⟩ := rs.one
    cases x with
    | tup zs =>
      cases h
      obtain ⟨t, ws, rfl, ht, rr⟩ := r.tup
      exact ⟨t, ws, rfl, .inr ⟨ev.sub.sqt ht, q _ Hb H ev (Ex.refl _) (rep_tup ht rr)⟩⟩
    | lst zs =>
      cases h
      obtain ⟨t, ws, rfl, ht, rr⟩ := r.lst
      exact ⟨t, ws, rfl, .inl ⟨SqL.of (ev.sub _ _ ht), fun n hn => q _ _ _ (ev.new hn) (Ex.new (ev.sub.free hn)) (rep_tup (SqT.of upd_same) (Reps.mono (Ex.new (ev.sub.free hn)) _ _ rr))⟩⟩
    | _ => cases h) hg (by decide) (by decide) na
/-- list(range(n)) -/
def rgD (n : Nat) : List D := (List.range n).map fun (i : Nat) => D.int (i : Int)
theorem reps_rg {B : Bs} {H : Hp} (n : Nat) : Reps B H (rgD n) (rgV 0 n) := by
  unfold rgD rgV
  have e : ((n : Int) - 0).toNat = n := by omega
  rw [e]
  have h : ∀ l : List Nat, Reps B H (l.map fun (i : Nat) => D.int (i : Int)) (l.map fun (i : Nat) => V.int (0 + (i : Int))) := fun l => by
    induction l with
    | nil => exact .nil
    | cons a l ih => exact .cons (by show Rep B H (D.int (a : Int)) (V.int (0 + (a : Int))); rw [Int.zero_add]; exact rep_int) ih
  exact h _
theorem pl_listR {n : Nat} {p' pos' : Pos} (m : X.mg "list" = none) (mr : X.mg "range" = none) (ha : PD X ρ a ρ1 (.int n)) (hn : n ≤ 1000000) (hc : X.calm = true := by rfl) (hg : Gl X "list" := by rfl) (hg2 : Gl X "range" := by rfl) (na : starEach [a] X.env = (false, eval a X.env) :: starEach [] X.env := by rfl)
    (nb : starEach [.Call (.Name "range" p') [a] [] pos'] X.env = (false, eval (.Call (.Name "range" p') [a] [] pos') X.env) :: starEach [] X.env := by rfl) : PL X ρ (.Call (.Name "list" p) [.Call (.Name "range" p') [a] [] pos'] [] pos) ρ1 (.lst (rgD n)) :=
  fun _ _ _ _ _ ev Q q => (pe_listRg hc hg m (prg_1 hg2 mr pe_w na) nb).w (ha _ _ _ _ _ ev _ fun v Hb1 H1 e1 x1 r1 => ⟨n, r1.int, .of_le (by omega) (by omega) (by omega) (by omega), fun l hl =>
    q l Hb1 _ _ (e1.newO hl) x1 (e1.sub.free hl) (e1.ex1.free hl) upd_same ⟨_, rfl, reps_rg n⟩ (e1.notOwn hl)⟩)
/-- sum, any, all -/
def rSumT (K : PySem.W.Frag) : List V → Hp → VK → Prop := fun vs H Q => ∃ (a : Addr) (ns : List Int), vs = [V.ref a] ∧ SqT K H a (ns.map V.int) ∧ Q (.int ns.sum) H
theorem cr_sumT (hc : X.calm = true) : CallR X (.builtin "sum") (rSumT X.K) := by
  intro pins s σ H vs us Q I r h
  obtain ⟨a, ns, rfl, hs, q⟩ := h
  obtain ⟨its, rv, hl, _⟩ := I.tuple hs
  rw [Vals.ref1 r]
  have hi := rv.ints
  obtain ⟨xs, hx⟩ := hi.allInts.items
  have hn : numsOf (intItems xs).toList = ns := by rw [← hx]; exact hi.numsOf
  rw [nums_intItems] at hn
  rw [hx] at hl
  refine PySem.W.ktm_sumG (I.ok.hd hc) hl fun h' tk t' hk => ?_
  refine ⟨.int ns.sum, H, I.kept hk, ⟨t', ?_⟩, q⟩
  rw [preSum_eq, List.take_of_length_le (by simp), hn]
theorem pd_sumT {ns : List Int} (m : X.mg "sum" = none) (ha : PD X ρ a ρ1 (.tup (ns.map D.int))) (hc : X.calm = true := by rfl) (hg : Gl X "sum" := by rfl) (na : starEach [a] X.env = (false, eval a X.env) :: starEach [] X.env := by rfl) : PD X ρ (.Call (.Name "sum" p) [a] [] pos) ρ1 (.int ns.sum) :=
  pd_cB (cr_sumT hc) m PyProof.Rows.boot_sum (pad_cons ha pad_nil na) (fun _ _ _ Hb H ev vs rs Q q => by
    obtain ⟨v, rfl, r⟩ := rs.one
    obtain ⟨t, ws, rfl, ht, rr⟩ := r.tup
    rw [rr.ints] at ht
    exact ⟨t, ns, rfl, ev.sub.sqt ht, q _ Hb H ev (Ex.refl _) rep_int⟩) hg (by decide) (by decide) na
theorem pd_any {ns : List Bool} (m : X.mg "any" = none) (ha : PD X ρ a ρ1 (.lst (ns.map D.bl))) (hc : X.calm = true := by rfl) (hg : Gl X "any" := by rfl) (na : starEach [a] X.env = (false, eval a X.env) :: starEach [] X.env := by rfl) : PD X ρ (.Call (.Name "any" p) [a] [] pos) ρ1 (.bl (ns.any id)) :=
  pd_cB (cr_any hc) m PyProof.Rows.boot_any (pad_cons ha pad_nil na) (fun _ _ _ Hb H ev vs rs Q q => by
    obtain ⟨v, rfl, r⟩ := rs.one
    obtain ⟨t, ws, rfl, ht, rr⟩ := r.lst
    rw [rr.bools] at ht
    exact ⟨t, ns, rfl, SqL.of (ev.sub _ _ ht), q _ Hb H ev (Ex.refl _) rep_bl⟩) hg (by decide) (by decide) na
theorem pd_all {ns : List Bool} (m : X.mg "all" = none) (ha : PD X ρ a ρ1 (.lst (ns.map D.bl))) (hc : X.calm = true := by rfl) (hg : Gl X "all" := by rfl) (na : starEach [a] X.env = (false, eval a X.env) :: starEach [] X.env := by rfl) : PD X ρ (.Call (.Name "all" p) [a] [] pos) ρ1 (.bl (ns.all id)) :=
  pd_cB (cr_all hc) m PyProof.Rows.boot_all (pad_cons ha pad_nil na) (fun _ _ _ Hb H ev vs rs Q q => by
    obtain ⟨v, rfl, r⟩ := rs.one
    obtain ⟨t, ws, rfl, ht, rr⟩ := r.lst
    rw [rr.bools] at ht
    exact ⟨t, ns, rfl, SqL.of (ev.sub _ _ ht), q _ Hb H ev (Ex.refl _) rep_bl⟩) hg (by decide) (by decide) na
/-! ### isinstance -/
/-- an own class whose instances isinstance looks at -/
structure InsTy (K : PySem.W.Frag) (C : Addr) : Prop where
  cl : Cls K C
  ha : PySem.W.findIn K (.ref C) "__class__" = some (some (.builtin "object.__class__"))
  hn : PySem.W.specialIn K (.builtin "object.__class__") "__get__" = some (some (.builtin "getset_descriptor.__get__"))
  htk : PySem.W.takesIn K (.builtin "object.__class__") = some true
  hm : PySem.W.mroIn K C (.type "object") = some true
def tyN : D → Option String
  | .non => some "NoneType"
  | .bl _ => some "bool"
  | .int _ => some "int"
  | .tup _ => some "tuple"
  | .lst _ => some "list"
  | _ => none
theorem sqt_ty {K : PySem.W.Frag} {H : Hp} {a : Addr} {xs : List V} (h : SqT K H a xs) : TyX K H (.ref a) (.type "tuple") := by
  rcases h with (h | ⟨o, h⟩) | ⟨o, its, n, h, c, _⟩
  · exact .base (.tup h)
  · exact .fTuple h
  · exact .kTuple h c
theorem rep_ty {B : Bs} {H H' : Hp} {x : D} {v : V} {T : String} (r : Rep B H x v) (e : Ex H H') (h : tyN x = some T) : TyX B.K H' v (.type T) := by
  cases x with
  | non => cases h; rw [Rep] at r; subst r; exact .base .non
  | bl b => cases h; rw [Rep] at r; subst r; exact .base (.bl b)
  | int i => cases h; rw [Rep] at r; subst r; exact .base (.int i)
  | tup ds => cases h; obtain ⟨t, ws, rfl, ht, rr⟩ := r.tup; exact sqt_ty (e.sqt ht)
  | lst ds => cases h; obtain ⟨t, ws, rfl, ht, rr⟩ := r.lst; exact .base (.lst (e _ _ ht))
  | _ => cases h
theorem Reps.mono' {B : Bs} {H H' : Hp} (e : Ex H H') {ds : List D} {vs : List V} (h : Reps B H ds vs) : Reps B H' ds vs := Reps.mono e _ _ h
/-- isinstance(a, T), T a built-in class -/
theorem pd_isT {T : String} {x' : D} {T' : String} {v : Bool} {n : Pos} (x : Str) (m : X.mg "isinstance" = none) (mt : X.mg x = none) (hv : bootBuiltins x = some (.type T)) (ha : PD X ρ a ρ1 x') (ht : tyN x' = some T') (hk : kitB T' T = some v)
    (hg : Gl X "isinstance" := by rfl) (hg2 : Gl X x := by rfl) (hn : x ≠ "__name__" := by decide) (hd : (x == ("__debug__" : Str)) = false := by decide) (na : starEach [a, .Name x n] X.env = (false, eval a X.env) :: starEach [.Name x n] X.env := by rfl) (nb : starEach [.Name x n] X.env = (false, eval (.Name x n) X.env) :: starEach [] X.env := by rfl)
    (hpl : (backTo pos (starEach [.Name x n] X.env)).any (·.1) = false := by rfl) : PD X ρ (.Call (.Name "isinstance" p) [a, .Name x n] [] pos) ρ1 (.bl v) :=
  fun _ _ _ _ _ ev Q q => (pe_callB call_isi hg m PyProof.Rows.boot_isinstance (pa_cons pe_w (pa_cons (pe_bltn (v := .ty T) hg2 mt hv rfl hn hd) pa_nil nb) na) (by decide) (by decide) na hpl).w (ha _ _ _ _ _ ev _ fun w Hb1 H1 e1 x1 r1 =>
    ⟨w, .ty T, .type T', .type T, v, rfl, .ty T, rep_ty r1 e1.sub ht, kit_ty hk, q _ Hb1 H1 e1 x1 rep_bl⟩)
/-- isinstance(a, C), C an own class -/
theorem pd_isC {C C' : Addr} {ns : List Str} {v : Bool} {n : Pos} (x : Str) (m : X.mg "isinstance" = none) (mt : X.mg x = some (.ref C)) (ha : PD X ρ a ρ1 (.ins C' ns ds)) (ht : InsTy X.K C') (hk : PySem.W.kitOne X.K (.ref C') (.ref C) = some v)
    (hg : Gl X "isinstance" := by rfl) (hg2 : Gl X x := by rfl) (hd : (x == ("__debug__" : Str)) = false := by decide) (na : starEach [a, .Name x n] X.env = (false, eval a X.env) :: starEach [.Name x n] X.env := by rfl) (nb : starEach [.Name x n] X.env = (false, eval (.Name x n) X.env) :: starEach [] X.env := by rfl)
    (hpl : (backTo pos (starEach [.Name x n] X.env)).any (·.1) = false := by rfl) : PD X ρ (.Call (.Name "isinstance" p) [a, .Name x n] [] pos) ρ1 (.bl v) :=
  fun _ _ _ _ _ ev Q q => (pe_callB call_isi hg m PyProof.Rows.boot_isinstance (pa_cons pe_w (pa_cons (pe_glob (v := .ref C) hg2 mt rfl hd) pa_nil nb) na) (by decide) (by decide) na hpl).w (ha _ _ _ _ _ ev _ fun w Hb1 H1 e1 x1 r1 => by
    obtain ⟨o, dx, vs, rfl, ho, _, rr⟩ := r1.ins
    exact ⟨.ref o, .ref C, .ref C', .ref C, v, rfl, .own C, .base (.ins (e1.sub _ _ ho) ht.cl ht.ha ht.hn ht.htk ht.hm), hk, q _ Hb1 H1 e1 x1 rep_bl⟩)
/-- isinstance(a, (T1, T2)) -/
theorem pd_isTT {T1 T2 : String} {x' : D} {T' : String} {v1 v2 : Bool} {n1 n2 pt : Pos} {kt : Nat} (x y : Str) (m : X.mg "isinstance" = none) (m1 : X.mg x = none) (m2 : X.mg y = none) (hv : bootBuiltins x = some (.type T1)) (hv2 : bootBuiltins y = some (.type T2))
    (ha : PD X ρ a ρ1 x') (ht : tyN x' = some T') (hk : kitB T' T1 = some v1) (hk2 : kitB T' T2 = some v2)
    (hg : Gl X "isinstance" := by rfl) (hg2 : Gl X x := by rfl) (hg3 : Gl X y := by rfl) (hn : x ≠ "__name__" := by decide) (hd : (x == ("__debug__" : Str)) = false := by decide) (hn2 : y ≠ "__name__" := by decide) (hd2 : (y == ("__debug__" : Str)) = false := by decide)
    (na : starEach [a, .Tuple [.Name x n1, .Name y n2] kt pt] X.env = (false, eval a X.env) :: starEach [.Tuple [.Name x n1, .Name y n2] kt pt] X.env := by rfl) (nb : starEach [.Tuple [.Name x n1, .Name y n2] kt pt] X.env = (false, eval (.Tuple [.Name x n1, .Name y n2] kt pt) X.env) :: starEach [] X.env := by rfl)
    (nc : starEach [.Name x n1, .Name y n2] X.env = (false, eval (.Name x n1) X.env) :: starEach [.Name y n2] X.env := by rfl) (nd : starEach [.Name y n2] X.env = (false, eval (.Name y n2) X.env) :: starEach [] X.env := by rfl)
    (hpl : (backTo pos (starEach [.Tuple [.Name x n1, .Name y n2] kt pt] X.env)).any (·.1) = false := by rfl) : PD X ρ (.Call (.Name "isinstance" p) [a, .Tuple [.Name x n1, .Name y n2] kt pt] [] pos) ρ1 (.bl (v1 || v2)) :=
  fun _ _ _ _ _ ev Q q => (pe_callB call_isiT hg m PyProof.Rows.boot_isinstance (pa_cons pe_w (pa_cons (pe_tup (pa_cons (pe_bltn (v := .ty T1) hg2 m1 hv rfl hn hd) (pa_cons (pe_bltn (v := .ty T2) hg3 m2 hv2 rfl hn2 hd2) pa_nil nd) nc)) pa_nil nb) na) (by decide) (by decide) na hpl).w (ha _ _ _ _ _ ev _ fun w Hb1 H1 e1 x1 r1 =>
    ⟨by show 2 ≤ sizeLine; decide, fun t ht' => ⟨w, t, [.ty T1, .ty T2], .type T', [.type T1, .type T2], v1 || v2, rfl, upd_same, .cons (.ty T1) (.cons (.ty T2) .nil), rep_ty r1 (e1.sub.trans (Ex.new ht')) ht,
      kitAny_cons (kit_ty hk) (fun e => by subst e; exact kitAny_cons (kit_ty hk2) (fun e => by subst e; rfl) (fun e => by subst e; rfl)) (fun e => by subst e; rfl), q _ Hb1 _ (e1.newO ht') x1 rep_bl⟩⟩)
end
end WL
set_option Elab.async false
set_option linter.all false
set_option maxRecDepth 100000
set_option maxHeartbeats 4000000
namespace WL
open PySem PySem.Spec PyProof.Rows L2
structure Post where
  nx : List E → Prop
  rt : List E → D → Prop
  bk : List E → Prop := fun _ => False
  ct : List E → Prop := fun _ => False
def Post.ends (P : Post) (B : Bs) (Hb0 H0 : Hp) : Ends where
  nx := fun σ H => ∃ ρ Hb, EnvS B Hb0 H0 ρ σ Hb H ∧ P.nx ρ
  rt := fun v H => ∃ ρ σ Hb d, EnvS B Hb0 H0 ρ σ Hb H ∧ Rep B Hb d v ∧ P.rt ρ d
  bk := fun σ H => ∃ ρ Hb, EnvS B Hb0 H0 ρ σ Hb H ∧ P.bk ρ
  ct := fun σ H => ∃ ρ Hb, EnvS B Hb0 H0 ρ σ Hb H ∧ P.ct ρ
section
variable (X : Cx)
def SD (ρ : List E) (st : Stmt) (P : Post) : Prop := ∀ Hb0 H0 σ Hb H, EnvS (bs X) Hb0 H0 ρ σ Hb H → WS X st (P.ends (bs X) Hb0 H0) σ H
def SDs (ρ : List E) (sts : List Stmt) (P : Post) : Prop := ∀ Hb0 H0 σ Hb H, EnvS (bs X) Hb0 H0 ρ σ Hb H → WSs X sts (P.ends (bs X) Hb0 H0) σ H
/-- the target takes the datum d; js: the slots that change -/
def GD (tg : Expr) (js : List Nat) (ρ : List E) (d : D) (ρ' : List E) : Prop := ∀ Hb0 H0 σ Hb H v, EnvS (bs X) Hb0 H0 ρ σ Hb H → Rep (bs X) Hb d v → ∀ Q : L2.St → Hp → Prop,
  (∀ σ' Hb' H', EnvS (bs X) Hb0 H0 ρ' σ' Hb' H' → Ex Hb Hb' → (∀ i, i ∉ js → σ'[i]? = σ[i]?) → σ'.length = σ.length → Q σ' H') → WG X tg v σ H Q
end
section
variable {X : Cx} {ρ ρ' ρ1 ρ2 ρ3 ρ4 : List E} {e a b c : Expr} {es : List Expr} {st : Stmt} {sts A1 A2 : List Stmt} {pos p pos' : Pos} {d x y z : D} {ds xs : List D} {i j k : Int} {P : Post}
theorem SP.mono {pins : List (Addr × Obj)} {D D' : Ends} {f : Flow} {s : Shared} (h : SP X pins D f s) (h1 : ∀ σ H, D.nx σ H → D'.nx σ H) (h2 : ∀ v H, D.rt v H → D'.rt v H) (h3 : ∀ σ H, D.bk σ H → D'.bk σ H) (h4 : ∀ σ H, D.ct σ H → D'.ct σ H) : SP X pins D' f s := by
  cases f with
  | next => obtain ⟨σ, H, I, q⟩ := h; exact ⟨σ, H, I, h1 _ _ q⟩
  | brk => obtain ⟨σ, H, I, q⟩ := h; exact ⟨σ, H, I, h3 _ _ q⟩
  | cont => obtain ⟨σ, H, I, q⟩ := h; exact ⟨σ, H, I, h4 _ _ q⟩
  | ret v => obtain ⟨v', σ, H, I, r, q⟩ := h; exact ⟨v', σ, H, I, r, h2 _ _ q⟩
theorem WS.mono {D D' : Ends} {σ : L2.St} {H : Hp} (h : WS X st D σ H) (h1 : ∀ σ H, D.nx σ H → D'.nx σ H) (h2 : ∀ v H, D.rt v H → D'.rt v H) (h3 : ∀ σ H, D.bk σ H → D'.bk σ H) (h4 : ∀ σ H, D.ct σ H → D'.ct σ H) : WS X st D' σ H :=
  fun pins s I => thn (h pins s I) fun _ _ q => SP.mono q h1 h2 h3 h4
theorem WSs.mono {D D' : Ends} {σ : L2.St} {H : Hp} (h : WSs X sts D σ H) (h1 : ∀ σ H, D.nx σ H → D'.nx σ H) (h2 : ∀ v H, D.rt v H → D'.rt v H) (h3 : ∀ σ H, D.bk σ H → D'.bk σ H) (h4 : ∀ σ H, D.ct σ H → D'.ct σ H) : WSs X sts D' σ H :=
  fun pins s I => thn (h pins s I) fun _ _ q => SP.mono q h1 h2 h3 h4
/-! ### blocks -/
theorem sds_nil (h : P.nx ρ) : SDs X ρ [] P := fun _ _ σ Hb H ev => pss_nil.w (⟨ρ, Hb, ev, h⟩ : (P.ends _ _ _).nx σ H)
theorem sds_cons (h : SD X ρ st { P with nx := fun ρ' => SDs X ρ' sts P }) : SDs X ρ (st :: sts) P := fun Hb0 H0 σ Hb H ev =>
  (pss_cons ps_w pss_w).w (WS.mono (h Hb0 H0 σ Hb H ev) (fun σ' H' ⟨ρ', Hb', ev', q⟩ => q Hb0 H0 σ' Hb' H' ev') (fun _ _ q => q) (fun _ _ q => q) fun _ _ q => q)
theorem sds_one (h : SD X ρ st P) : SDs X ρ [st] P := sds_cons (P := P) fun Hb0 H0 σ Hb H ev => WS.mono (h Hb0 H0 σ Hb H ev) (fun σ' H' ⟨ρ', Hb', ev', q⟩ => ⟨ρ', Hb', ev', sds_nil q⟩) (fun _ _ q => q) (fun _ _ q => q) fun _ _ q => q
theorem SD.mono {P' : Post} (h : SD X ρ st P) (h1 : ∀ ρ, P.nx ρ → P'.nx ρ) (h2 : ∀ ρ d, P.rt ρ d → P'.rt ρ d) (h3 : ∀ ρ, P.bk ρ → P'.bk ρ) (h4 : ∀ ρ, P.ct ρ → P'.ct ρ) : SD X ρ st P' := fun Hb0 H0 σ Hb H ev =>
  WS.mono (h Hb0 H0 σ Hb H ev) (fun _ _ ⟨r, Hb', a, q⟩ => ⟨r, Hb', a, h1 _ q⟩) (fun _ _ ⟨r, s, Hb', d, a, b, q⟩ => ⟨r, s, Hb', d, a, b, h2 _ _ q⟩) (fun _ _ ⟨r, Hb', a, q⟩ => ⟨r, Hb', a, h3 _ q⟩) fun _ _ ⟨r, Hb', a, q⟩ => ⟨r, Hb', a, h4 _ q⟩
theorem SDs.mono {P' : Post} (h : SDs X ρ sts P) (h1 : ∀ ρ, P.nx ρ → P'.nx ρ) (h2 : ∀ ρ d, P.rt ρ d → P'.rt ρ d) (h3 : ∀ ρ, P.bk ρ → P'.bk ρ) (h4 : ∀ ρ, P.ct ρ → P'.ct ρ) : SDs X ρ sts P' := fun Hb0 H0 σ Hb H ev =>
  WSs.mono (h Hb0 H0 σ Hb H ev) (fun _ _ ⟨r, Hb', a, q⟩ => ⟨r, Hb', a, h1 _ q⟩) (fun _ _ ⟨r, s, Hb', d, a, b, q⟩ => ⟨r, s, Hb', d, a, b, h2 _ _ q⟩) (fun _ _ ⟨r, Hb', a, q⟩ => ⟨r, Hb', a, h3 _ q⟩) fun _ _ ⟨r, Hb', a, q⟩ => ⟨r, Hb', a, h4 _ q⟩
/-- a slot is forgotten first -/
theorem SDs.drop (n : Nat) (h : SDs X (ρ.set n .no) sts P) : SDs X ρ sts P := fun Hb0 H0 σ Hb H ev => h Hb0 H0 σ Hb H (ev.drop n)
theorem PD.drop (n : Nat) (h : PD X (ρ.set n .no) e ρ' d) : PD X ρ e ρ' d := fun Hb0 H0 σ Hb H ev => h Hb0 H0 σ Hb H (ev.drop n)
theorem PL.drop (n : Nat) {o : O} (h : PL X (ρ.set n .no) e ρ' o) : PL X ρ e ρ' o := fun Hb0 H0 σ Hb H ev => h Hb0 H0 σ Hb H (ev.drop n)
/-! ### simple statements -/
theorem sd_asg (n : Nat) {x : Str} (he : PD X ρ e ρ1 d) (q : P.nx (ρ1.set n (.d d))) (nd : X.N.Nodup) (hi : X.N[n]? = some x := by rfl) (hx : Loc X.env.scope x := by first | exact Or.inl rfl | exact Or.inr rfl)
    (hs : swapsWith e (some (.Name x pos')) pos.line X.env = pure false := by rfl) (hf : X.fn x = true ∨ X.env.scope.names.lookup x = some .local := by first | exact .inl rfl | exact .inr rfl) : SD X ρ (.Assign [.Name x pos'] e pos) P := fun Hb0 H0 σ Hb H ev =>
  (ps_set nd hi hx pe_w hs hf).w (he _ _ _ _ _ ev _ fun v Hb1 H1 e1 x1 r1 => ⟨_, Hb1, e1.setd r1, q⟩)
theorem NotOwn.set {ρ : List E} {l : Addr} (h : NotOwn ρ l) (n : Nat) : NotOwn (ρ.set n .no) l := fun i o q => by
  rw [get_set] at q
  split at q
  · cases q
  · exact h i o q
theorem sd_asgL (n : Nat) {x : Str} {o : O} (he : PL X ρ e ρ1 o) (q : ∀ l, P.nx (ρ1.set n (.own l o))) (nd : X.N.Nodup) (hi : X.N[n]? = some x := by rfl) (hx : Loc X.env.scope x := by first | exact Or.inl rfl | exact Or.inr rfl)
    (hs : swapsWith e (some (.Name x pos')) pos.line X.env = pure false := by rfl) (hf : X.fn x = true ∨ X.env.scope.names.lookup x = some .local := by first | exact .inl rfl | exact .inr rfl) : SD X ρ (.Assign [.Name x pos'] e pos) P := fun Hb0 H0 σ Hb H ev =>
  (ps_set nd hi hx pe_w hs hf).w (he _ _ _ _ _ ev _ fun l Hb1 H1 ho e1 x1 nb n0 hl r no => ⟨_, Hb1, e1.seto nb n0 hl r (no.set n), q l⟩)
theorem sd_ret (he : PD X ρ e ρ1 d) (q : P.rt ρ1 d) : SD X ρ (.Return (some e) pos) P := fun Hb0 H0 σ Hb H ev =>
  (ps_ret pe_w).w (he _ _ _ _ _ ev _ fun v Hb1 H1 e1 x1 r1 => ⟨ρ1, σ, Hb1, d, e1, r1, q⟩)
theorem sd_retN (q : P.rt ρ .non) : SD X ρ (.Return none pos) P := fun Hb0 H0 σ Hb H ev => ps_retN.w (show (P.ends _ _ _).rt .non H from ⟨ρ, σ, Hb, .non, ev, rep_non, q⟩)
theorem sd_expr (he : PD X ρ e ρ1 d) (q : P.nx ρ1) (hs : swapsWith e none pos.line X.env = pure false := by rfl) : SD X ρ (.Expr e pos) P := fun Hb0 H0 σ Hb H ev =>
  (ps_expr pe_w hs).w (he _ _ _ _ _ ev _ fun v Hb1 H1 e1 x1 r1 => ⟨ρ1, Hb1, e1, q⟩)
theorem sd_if {v : Bool} (hc : PTD X ρ c ρ1 v) (h1 : v = true → SDs X ρ1 A1 P) (h2 : v = false → SDs X ρ1 A2 P) : SD X ρ (.If c A1 A2 pos) P := fun Hb0 H0 σ Hb H ev =>
  (ps_if pt_w pss_w pss_w).w (hc _ _ _ _ _ ev _ fun Hb1 H1 e1 x1 => by
    cases v with
    | true => rw [if_pos rfl]; exact h1 rfl _ _ _ _ _ e1
    | false => rw [if_neg Bool.false_ne_true]; exact h2 rfl _ _ _ _ _ e1)
/-- the test is false: the branch is not taken -/
theorem sd_ifF {v : Bool} (hc : PTD X ρ c ρ1 v) (hv : v = false) (h2 : SDs X ρ1 A2 P) : SD X ρ (.If c A1 A2 pos) P := sd_if hc (fun h => by rw [hv] at h; cases h) fun _ => h2
theorem sd_ifT {v : Bool} (hc : PTD X ρ c ρ1 v) (hv : v = true) (h1 : SDs X ρ1 A1 P) : SD X ρ (.If c A1 A2 pos) P := sd_if hc (fun _ => h1) fun h => by rw [hv] at h; cases h
/-! ### targets -/
theorem gd_name (n : Nat) {x : Str} (nd : X.N.Nodup) (hi : X.N[n]? = some x := by rfl) (hx : Loc X.env.scope x := by first | exact Or.inl rfl | exact Or.inr rfl) (hf : X.fn x = true ∨ X.env.scope.names.lookup x = some .local := by first | exact .inl rfl | exact .inr rfl) :
    GD X (.Name x pos) [n] ρ d (ρ.set n (.d d)) := fun _ _ σ Hb H v ev r Q q => (pg_name nd hi hx hf).w (q _ Hb H (ev.setd r) (Ex.refl _) (fun i hi => List.getElem?_set_ne (fun z => hi (by simp [z]))) (List.length_set ..))
theorem gd_tup2 {t1 t2 : Expr} {js1 js2 : List Nat} {d1 d2 : D} {kt : Nat} (h1 : GD X t1 js1 ρ d1 ρ1) (h2 : GD X t2 js2 ρ1 d2 ρ2) (hc : X.calm = true := by rfl)
    (hs : (assignEach [t1, t2] X.env).map (·.2) = assign t1 X.env :: (assignEach [t2] X.env).map (·.2) := by rfl) (hs2 : (assignEach [t2] X.env).map (·.2) = assign t2 X.env :: (assignEach [] X.env).map (·.2) := by rfl)
    (hn : (assignEach [t1, t2] X.env).length = 2 := by rfl) (hst : (assignEach [t1, t2] X.env).findIdx? (·.1) = none := by rfl) : GD X (.Tuple [t1, t2] kt pos) (js1 ++ js2) ρ (.tup [d1, d2]) ρ2 := fun _ _ σ Hb H v ev r Q q => by
  refine (pg_tup hc (pgs_cons pg_w (pgs_cons pg_w pgs_nil hs2) hs) hn hst).w ?_
  obtain ⟨t, ws, rfl, ht, rr⟩ := r.tup
  obtain ⟨v1, v2, rfl, r1, r2⟩ := rr.two
  refine ⟨t, _, rfl, ev.sub.sqt ht, rfl, v1, [v2], rfl, ?_⟩
  refine h1 _ _ _ _ _ v1 ev r1 _ fun σ1 Hb1 H1 e1 x1 k1 l1 => ⟨v2, [], rfl, ?_⟩
  refine h2 _ _ _ _ _ v2 e1 (Rep.mono x1 _ _ r2) _ fun σ2 Hb2 H2 e2 x2 k2 l2 => ⟨rfl, ?_⟩
  exact q σ2 Hb2 H2 e2 (x1.trans x2) (fun i hi => (k2 i fun z => hi (List.mem_append_right _ z)).trans (k1 i fun z => hi (List.mem_append_left _ z))) (l2.trans l1)
theorem gd_tup3 {t1 t2 t3 : Expr} {js1 js2 js3 : List Nat} {d1 d2 d3 : D} {kt : Nat} (h1 : GD X t1 js1 ρ d1 ρ1) (h2 : GD X t2 js2 ρ1 d2 ρ2) (h3 : GD X t3 js3 ρ2 d3 ρ3) (hc : X.calm = true := by rfl)
    (hs : (assignEach [t1, t2, t3] X.env).map (·.2) = assign t1 X.env :: (assignEach [t2, t3] X.env).map (·.2) := by rfl) (hs2 : (assignEach [t2, t3] X.env).map (·.2) = assign t2 X.env :: (assignEach [t3] X.env).map (·.2) := by rfl)
    (hs3 : (assignEach [t3] X.env).map (·.2) = assign t3 X.env :: (assignEach [] X.env).map (·.2) := by rfl)
    (hn : (assignEach [t1, t2, t3] X.env).length = 3 := by rfl) (hst : (assignEach [t1, t2, t3] X.env).findIdx? (·.1) = none := by rfl) : GD X (.Tuple [t1, t2, t3] kt pos) (js1 ++ (js2 ++ js3)) ρ (.tup [d1, d2, d3]) ρ3 := fun _ _ σ Hb H v ev r Q q => by
  refine (pg_tup hc (pgs_cons pg_w (pgs_cons pg_w (pgs_cons pg_w pgs_nil hs3) hs2) hs) hn hst).w ?_
  obtain ⟨t, ws, rfl, ht, rr⟩ := r.tup
  rw [Reps] at rr
  obtain ⟨v1, ws', rfl, r1, rr⟩ := rr
  obtain ⟨v2, v3, rfl, r2, r3⟩ := rr.two
  refine ⟨t, _, rfl, ev.sub.sqt ht, rfl, v1, [v2, v3], rfl, ?_⟩
  refine h1 _ _ _ _ _ v1 ev r1 _ fun σ1 Hb1 H1 e1 x1 k1 l1 => ⟨v2, [v3], rfl, ?_⟩
  refine h2 _ _ _ _ _ v2 e1 (Rep.mono x1 _ _ r2) _ fun σ2 Hb2 H2 e2 x2 k2 l2 => ⟨v3, [], rfl, ?_⟩
  refine h3 _ _ _ _ _ v3 e2 (Rep.mono (x1.trans x2) _ _ r3) _ fun σ3 Hb3 H3 e3 x3 k3 l3 => ⟨rfl, ?_⟩
  exact q σ3 Hb3 H3 e3 ((x1.trans x2).trans x3) (fun i hi => (k3 i fun z => hi (by simp [z])).trans ((k2 i fun z => hi (by simp [z])).trans (k1 i fun z => hi (by simp [z])))) (l3.trans (l2.trans l1))
/-- a target that is no name, or a tuple of such: tg = e -/
theorem sd_asgG {tg : Expr} {js : List Nat} (he : PD X ρ e ρ1 d) (hg : GD X tg js ρ1 d ρ2) (q : P.nx ρ2) (hs : swapsWithSole [tg] e pos.line X.env = pure false := by rfl) (hw : swappedStores [tg] e X.env = pure none := by rfl)
    (h1 : (assignEach [tg] X.env).map (·.2) = [assign tg X.env] := by rfl) : SD X ρ (.Assign [tg] e pos) P := fun Hb0 H0 σ Hb H ev =>
  (ps_asg pe_w pg_w hs hw h1).w (he _ _ _ _ _ ev _ fun v Hb1 H1 e1 x1 r1 => hg _ _ _ _ _ v e1 r1 _ fun σ2 Hb2 H2 e2 x2 _ _ => ⟨ρ2, Hb2, e2, q⟩)
/-- a, b = e1, e2: two local names -/
theorem sd_par (n m : Nat) {x y : Str} {d1 d2 : D} {px py pt pt2 : Pos} {kt k2 : Nat} (ha : PAD X ρ [a, b] ρ1 [d1, d2]) (q : P.nx ((ρ1.set n (.d d1)).set m (.d d2))) (nd : X.N.Nodup) (hc : X.calm = true := by rfl) (hi : X.N[n]? = some x := by rfl) (hj : X.N[m]? = some y := by rfl) (hij : n ≠ m := by decide)
    (hx : X.env.scope.names.lookup x = some .local := by rfl) (hy : X.env.scope.names.lookup y = some .local := by rfl)
    (hw : swappedStores [.Tuple [.Name x px, .Name y py] kt pt] (.Tuple [a, b] k2 pt2) X.env = pure (some [x, y]) := by rfl)
    (hs : swapsWithSole [.Tuple [.Name x px, .Name y py] kt pt] (.Tuple [a, b] k2 pt2) pos.line X.env = pure false := by rfl) :
    SD X ρ (.Assign [.Tuple [.Name x px, .Name y py] kt pt] (.Tuple [a, b] k2 pt2) pos) P := fun Hb0 H0 σ Hb H ev =>
  (ps_par hc nd hi hj hij hx hy pa_w hw hs).w (ha _ _ _ _ _ ev _ fun vs Hb1 H1 e1 x1 r1 => by
    obtain ⟨v, w, rfl, r1, r2⟩ := r1.two
    exact ⟨v, w, rfl, _, Hb1, (e1.setd r1).setd r2, q⟩)
theorem sd_par3 (n m l : Nat) {x y z : Str} {d1 d2 d3 : D} {px py pz pt pt2 : Pos} {kt k2 : Nat} (ha : PAD X ρ [a, b, c] ρ1 [d1, d2, d3]) (q : P.nx (((ρ1.set n (.d d1)).set m (.d d2)).set l (.d d3))) (nd : X.N.Nodup) (hc : X.calm = true := by rfl) (hi : X.N[n]? = some x := by rfl) (hj : X.N[m]? = some y := by rfl) (hl : X.N[l]? = some z := by rfl)
    (hij : n ≠ m := by decide) (hil : n ≠ l := by decide) (hjl : m ≠ l := by decide) (hx : X.env.scope.names.lookup x = some .local := by rfl) (hy : X.env.scope.names.lookup y = some .local := by rfl) (hz : X.env.scope.names.lookup z = some .local := by rfl)
    (hw : swappedStores [.Tuple [.Name x px, .Name y py, .Name z pz] kt pt] (.Tuple [a, b, c] k2 pt2) X.env = pure (some [x, y, z]) := by rfl)
    (hs : swapsWithSole [.Tuple [.Name x px, .Name y py, .Name z pz] kt pt] (.Tuple [a, b, c] k2 pt2) pos.line X.env = pure false := by rfl) :
    SD X ρ (.Assign [.Tuple [.Name x px, .Name y py, .Name z pz] kt pt] (.Tuple [a, b, c] k2 pt2) pos) P := fun Hb0 H0 σ Hb H ev =>
  (ps_par3 hc nd hi hj hl hij hil hjl hx hy hz pa_w hw hs).w (ha _ _ _ _ _ ev _ fun vs Hb1 H1 e1 x1 r1 => by
    rw [Reps] at r1
    obtain ⟨v1, ws', rfl, r1, rr⟩ := r1
    obtain ⟨v2, v3, rfl, r2, r3⟩ := rr.two
    exact ⟨v1, v2, v3, rfl, _, Hb1, ((e1.setd r1).setd r2).setd r3, q⟩)
/-! ### objects of one's own -/
theorem sd_append (n : Nat) {x : Str} {l : Addr} {ds0 : List D} {cp ap : Pos} (h0 : ρ[n]? = some (.own l (.lst ds0))) (he : PD X ρ e ρ1 d) (h1 : ρ1[n]? = some (.own l (.lst ds))) (hz : ds.length < 100000) (q : P.nx (ρ1.set n (.own l (.lst (ds ++ [d])))))
    (hN : X.N[n]? = some x := by rfl) (hv : Vis X.env.scope x := by first | exact Or.inl rfl | exact Or.inr (Or.inl rfl) | exact Or.inr (Or.inr rfl)) (hd1 : (x == ("__debug__" : Str)) = false := by decide) (hd2 : (x == ("__classdict__" : Str)) = false := by decide)
    (na : starEach [e] X.env = (false, eval e X.env) :: starEach [] X.env := by rfl)
    (hbase : attributeBase (.Name x p) "append" X.env (eval (.Name x p) X.env) = eval (.Name x p) X.env := by rfl)
    (hline : (ap.endLine == cp.line) = true := by rfl) (hfew : ((backTo cp (starEach [e] X.env)).any (·.1)) = false := by rfl)
    (hs : swapsWith (.Call (.Attribute (.Name x p) "append" ap) [e] [] cp) none pos.line X.env = pure false := by rfl)
    (hall : PE X (.Call (.Attribute (.Name x p) "append" ap) [e] [] cp) (tBM X.K "list" rAppend (tVar n) (tCons (W X e) tNil)) := by
      exact pe_bm PySem.F.plainAttrs_list PySem.F.slot_list_append PySem.F.type_list_append mt_append (pe_var (by rfl) (by first | exact Or.inl rfl | exact Or.inr (Or.inl rfl) | exact Or.inr (Or.inr rfl)) (by decide) (by decide)) (pa_cons pe_w pa_nil (by rfl))) :
    SD X ρ (.Expr (.Call (.Attribute (.Name x p) "append" ap) [e] [] cp) pos) P := fun Hb0 H0 σ Hb H ev => by
  refine (ps_expr hall hs).w ?_
  obtain ⟨e1, _, _, ho, h4, vs, rfl, rr⟩ := ev.own n l _ h0
  refine ⟨.ref l, e1, .inl ⟨rfl, vs, SqL.of h4⟩, he _ _ _ _ _ ev _ fun v Hb1 H1 ev1 x1 r1 => ?_⟩
  obtain ⟨_, _, _, ho, h4', vs', rfl, rr'⟩ := ev1.own n l _ h1
  refine ⟨l, vs', v, rfl, rfl, h4', Nat.lt_of_lt_of_le (by rw [← rr'.length]; exact hz) (by decide), ?_⟩
  exact ⟨_, Hb1, ev1.mut (o' := .lst (ds ++ [d])) h1 ⟨_, rfl, rr'.append (.cons r1 .nil)⟩, q⟩
theorem sd_pop (n : Nat) {x : Str} {l : Addr} {cp ap : Pos} (h0 : ρ[n]? = some (.own l (.lst ds))) (hz : ds ≠ []) (q : P.nx (ρ.set n (.own l (.lst ds.dropLast))))
    (hN : X.N[n]? = some x := by rfl) (hv : Vis X.env.scope x := by first | exact Or.inl rfl | exact Or.inr (Or.inl rfl) | exact Or.inr (Or.inr rfl)) (hd1 : (x == ("__debug__" : Str)) = false := by decide) (hd2 : (x == ("__classdict__" : Str)) = false := by decide)
    (hbase : attributeBase (.Name x p) "pop" X.env (eval (.Name x p) X.env) = eval (.Name x p) X.env := by rfl) (hline : (ap.endLine == cp.line) = true := by rfl)
    (hs : swapsWith (.Call (.Attribute (.Name x p) "pop" ap) [] [] cp) none pos.line X.env = pure false := by rfl)
    (hall : PE X (.Call (.Attribute (.Name x p) "pop" ap) [] [] cp) (tBM0 X.K "list" rPop (tVar n)) := by
      exact pe_bm0 PySem.F.plainAttrs_list PySem.F.slot_list_pop PySem.F.type_list_pop mt_pop (pe_var (by rfl) (by first | exact Or.inl rfl | exact Or.inr (Or.inl rfl) | exact Or.inr (Or.inr rfl)) (by decide) (by decide))) :
    SD X ρ (.Expr (.Call (.Attribute (.Name x p) "pop" ap) [] [] cp) pos) P := fun Hb0 H0 σ Hb H ev => by
  refine (ps_expr hall hs).w ?_
  obtain ⟨e1, _, _, ho, h4, vs, rfl, rr⟩ := ev.own n l _ h0
  have hl := rr.length
  have hpos : 0 < ds.length := List.length_pos_iff.mpr hz
  obtain ⟨d, hd⟩ : ∃ d, ds[ds.length - 1]? = some d := ⟨_, List.getElem?_eq_getElem (by omega)⟩
  obtain ⟨y, hy, ry⟩ := rr.get hd
  refine ⟨.ref l, e1, .inl ⟨rfl, vs, SqL.of h4⟩, l, vs, y, rfl, rfl, h4, by rw [← hl]; exact hy, ?_⟩
  refine ⟨_, Hb, ev.mut (o' := .lst ds.dropLast) h0 ⟨_, rfl, ?_⟩, q⟩
  rw [List.dropLast_eq_take, List.dropLast_eq_take, ← hl]
  exact rr.take _
/-- x[idx] = e, x a list of one's own -/
theorem gd_sub (n : Nat) {x : Str} {l : Addr} {m : Nat} (h0 : ρ[n]? = some (.own l (.lst ds))) (hb : PD X ρ b ρ (.int i)) (hm : ixN ds.length i = some m)
    (hN : X.N[n]? = some x := by rfl) (hv : Vis X.env.scope x := by first | exact Or.inl rfl | exact Or.inr (Or.inl rfl) | exact Or.inr (Or.inr rfl)) (hd1 : (x == ("__debug__" : Str)) = false := by decide) (hd2 : (x == ("__classdict__" : Str)) = false := by decide)
    (ha : ∀ v, assign (.Subscript (.Name x p) b pos) X.env v = (do
      let ov ← holding [v] (eval (.Name x p) X.env)
      let iv ← holding [v, ov] (eval b X.env)
      standAt pos
      holding [v, ov, iv] (setItem ov iv v)
      release [v, ov, iv] []) := by intro _; rfl) : GD X (.Subscript (.Name x p) b pos) [] ρ d (ρ.set n (.own l (.lst (ds.set m d)))) := fun _ _ σ Hb H v ev r Q q => by
  refine (pg_sub (pe_var hN hv hd1 hd2) pe_w set_list ha).w ?_
  obtain ⟨e1, _⟩ := ev.own n l _ h0
  refine ⟨.ref l, e1, hb _ _ _ _ _ ev _ fun w Hb1 H1 ev1 x1 r1 => ?_⟩
  obtain ⟨_, _, _, ho, h4, vs, rfl, rr⟩ := ev1.own n l _ h0
  refine ⟨l, vs, i, m, rfl, r1.int, h4, by rw [← rr.length]; exact hm, ?_⟩
  exact q σ Hb1 _ (ev1.mut (o' := .lst (ds.set m d)) h0 ⟨_, rfl, rr.set (Rep.mono x1 _ _ r) m⟩) x1 (fun _ _ => rfl) rfl
/-- x += e, lists -/
theorem sd_augL (n : Nat) {x : Str} {l : Addr} {ds0 : List D} (h0 : ρ[n]? = some (.own l (.lst ds0))) (he : PD X ρ e ρ1 (.lst xs)) (h1 : ρ1[n]? = some (.own l (.lst ds))) (hz : ds.length + xs.length ≤ 100000) (q : P.nx (ρ1.set n (.own l (.lst (ds ++ xs))))) (nd : X.N.Nodup)
    (hi : X.N[n]? = some x := by rfl) (hx : Loc X.env.scope x := by first | exact Or.inl rfl | exact Or.inr rfl) (hf : X.fn x = true ∨ X.env.scope.names.lookup x = some .local := by first | exact .inl rfl | exact .inr rfl) : SD X ρ (.AugAssign (.Name x pos') .Add e pos) P := fun Hb0 H0 σ Hb H ev => by
  refine (ps_aug nd hi hx pe_w iop_ext hf).w ?_
  obtain ⟨e1, _⟩ := ev.own n l _ h0
  refine ⟨.ref l, e1, he _ _ _ _ _ ev _ fun v Hb1 H1 ev1 x1 r1 => ?_⟩
  obtain ⟨g1, _, _, ho, h4, vs, rfl, rr⟩ := ev1.own n l _ h1
  obtain ⟨t, ws, rfl, ht, rw'⟩ := r1.lst
  refine ⟨l, t, vs, ws, rfl, rfl, h4, ev1.sub _ _ ht, Nat.le_trans (by rw [← rr.length, ← rw'.length]; exact hz) (by decide), ?_⟩
  have s : σ.set n (some (.ref l)) = σ := List.ext_getElem? fun j => by
    rw [get_set]
    split
    · rename_i z; rw [← z.1]; exact g1.symm
    · rfl
  show (P.ends (bs X) Hb0 H0).nx (σ.set n (some (V.ref l))) _
  rw [s]
  exact ⟨_, Hb1, ev1.mut (o' := .lst (ds ++ xs)) h1 ⟨_, rfl, rr.append rw'⟩, q⟩
theorem sd_augI (n : Nat) {x : Str} (h0 : ρ[n]? = some (.d (.int i))) (he : PD X ρ e ρ1 (.int j)) (q : P.nx (ρ1.set n (.d (.int (i + j))))) (nd : X.N.Nodup)
    (hi : X.N[n]? = some x := by rfl) (hx : Loc X.env.scope x := by first | exact Or.inl rfl | exact Or.inr rfl) (hf : X.fn x = true ∨ X.env.scope.names.lookup x = some .local := by first | exact .inl rfl | exact .inr rfl) : SD X ρ (.AugAssign (.Name x pos') .Add e pos) P := fun Hb0 H0 σ Hb H ev => by
  refine (ps_aug nd hi hx pe_w ip_add hf).w ?_
  obtain ⟨v, e1, r⟩ := ev.dat n _ h0
  exact ⟨v, e1, he _ _ _ _ _ ev _ fun w Hb1 H1 ev1 x1 r1 => ⟨i, j, r.int, r1.int, _, Hb1, ev1.setd rep_int, q⟩⟩
theorem sd_augS (n : Nat) {x : Str} (h0 : ρ[n]? = some (.d (.int i))) (he : PD X ρ e ρ1 (.int j)) (q : P.nx (ρ1.set n (.d (.int (i - j))))) (nd : X.N.Nodup)
    (hi : X.N[n]? = some x := by rfl) (hx : Loc X.env.scope x := by first | exact Or.inl rfl | exact Or.inr rfl) (hf : X.fn x = true ∨ X.env.scope.names.lookup x = some .local := by first | exact .inl rfl | exact .inr rfl) : SD X ρ (.AugAssign (.Name x pos') .Sub e pos) P := fun Hb0 H0 σ Hb H ev => by
  refine (ps_aug nd hi hx pe_w ip_sub hf).w ?_
  obtain ⟨v, e1, r⟩ := ev.dat n _ h0
  exact ⟨v, e1, he _ _ _ _ _ ev _ fun w Hb1 H1 ev1 x1 r1 => ⟨i, j, r.int, r1.int, _, Hb1, ev1.setd rep_int, q⟩⟩
theorem zip_len {ns : List Str} {vs : List V} (h : ns.length = vs.length) : (ns.zip vs).length = ns.length := by rw [List.length_zip]; omega
theorem putF_zip {f : Str} {v : V} : ∀ {ns : List Str} {vs : List V}, ns.length = vs.length → f ∉ ns → putF f v (ns.zip vs) = (ns ++ [f]).zip (vs ++ [v])
  | [], [], _, _ => rfl
  | [], _ :: _, h, _ => by simp at h
  | _ :: _, [], h, _ => by simp at h
  | n :: ns, w :: vs, h, hf => by
    have h1 : n ≠ f := fun z => hf (by simp [z])
    have h2 : f ∉ ns := fun z => hf (by simp [z])
    show (if n = f then (n, v) :: ns.zip vs else (n, w) :: putF f v (ns.zip vs)) = (n, w) :: (ns ++ [f]).zip (vs ++ [v])
    rw [if_neg h1, putF_zip (by simpa using h) h2]
/-- self.f = e -/
theorem sd_fld (n : Nat) {x : Str} {l C dx : Addr} {f : Str} {ns ns0 : List Str} {ds0 : List D} {tp : Pos} (h0 : ρ[n]? = some (.own l (.ins C dx ns0 ds0))) (he : PD X ρ e ρ1 d) (h1 : ρ1[n]? = some (.own l (.ins C dx ns ds))) (hf : f ∉ ns) (hl : ns.length < 1000) (cl : Cls X.K C) (na : NoAttr X.K C f)
    (q : P.nx (ρ1.set n (.own l (.ins C dx (ns ++ [f]) (ds ++ [d])))))
    (hN : X.N[n]? = some x := by rfl) (hv : Vis X.env.scope x := by first | exact Or.inl rfl | exact Or.inr (Or.inl rfl) | exact Or.inr (Or.inr rfl)) (hd1 : (x == ("__debug__" : Str)) = false := by decide) (hd2 : (x == ("__classdict__" : Str)) = false := by decide)
    (hs : swapsWith e (some (.Attribute (.Name x p) f tp)) pos.line X.env = pure false := by rfl) : SD X ρ (.Assign [.Attribute (.Name x p) f tp] e pos) P := fun Hb0 H0 σ Hb H ev => by
  refine (ps_fld (pe_var hN hv hd1 hd2) pe_w hs).w ?_
  refine he _ _ _ _ _ ev _ fun v Hb1 H1 ev1 x1 r1 => ?_
  obtain ⟨e1, _, _, ho, h4, vs, rfl, hlen, rr⟩ := ev1.own n l _ h1
  have hlv : ns.length = vs.length := hlen.trans rr.length
  refine ⟨.ref l, e1, l, C, dx, _, rfl, h4, cl, na, by rw [zip_len hlv]; exact hl, ?_⟩
  rw [putF_zip hlv hf]
  exact ⟨_, Hb1, ev1.mut (o' := .ins C dx (ns ++ [f]) (ds ++ [d])) h1 ⟨vs ++ [v], rfl, by simp [hlen], rr.append (.cons r1 .nil)⟩, q⟩
end
end WL
set_option Elab.async false
set_option linter.all false
set_option maxRecDepth 100000
set_option maxHeartbeats 4000000
namespace WL
open PySem PySem.Spec PyProof.Rows L2
def SrcOk (B : Bs) (Hb1 : Hp) (J : It) (xs : List D) : Prop :=
  (∀ (k : Nat) Hb H, Ex Hb1 Hb → Ex Hb H → k < xs.length → J.go k H) ∧ (∀ (k : Nat) Hb H, Ex Hb1 Hb → Ex Hb H → xs.length ≤ k → J.stop k H) ∧
  ∀ (k : Nat) Hb H v H', Ex Hb1 Hb → Ex Hb H → J.yld k H v H' → k < xs.length → ∃ d, xs[k]? = some d ∧ ((H' = H ∧ Rep B Hb d v) ∨ ∃ T o, H T = none ∧ H' = upd H T o ∧ Rep B (upd Hb T o) d v)
/-- iter walks over the data xs -/
def Src (X : Cx) (tg iter : Expr) (ρ ρ1 : List E) (xs : List D) : Prop := ∃ wi, PI X tg iter wi ∧ ∀ Hb0 H0 σ Hb H, EnvS (bs X) Hb0 H0 ρ σ Hb H → ∀ R : It → Hp → Prop,
  (∀ J Hb1 H1, EnvS (bs X) Hb0 H0 ρ1 σ Hb1 H1 → Ex Hb Hb1 → SrcOk (bs X) Hb1 J xs → R J H1) → wi σ H R
section
variable {X : Cx} {ρ ρ' ρ1 ρ2 ρ3 ρ4 : List E} {e a b c tg : Expr} {es : List Expr} {st : Stmt} {sts body : List Stmt} {pos p pos' : Pos} {d x y z : D} {ds xs ys : List D} {i j k : Int} {P : Post}
theorem src_list (h : PD X ρ a ρ1 (.lst xs)) : Src X tg a ρ ρ1 xs := ⟨_, pi_list pe_w, fun _ _ _ _ _ ev R q => h _ _ _ _ _ ev _ fun v Hb1 H1 e1 x1 r1 => by
  obtain ⟨t, vs, rfl, ht, rr⟩ := r1.lst
  have hl := rr.length
  refine ⟨t, rfl, ⟨vs, SqL.of (e1.sub _ _ ht)⟩, q _ Hb1 H1 e1 x1 ⟨fun k Hb H e2 e3 hk => ?_, fun k Hb H e2 e3 hk => ?_, fun k Hb H v H' e2 e3 hy hk => ?_⟩⟩
  · exact ⟨vs, vs[k]'(by omega), SqL.of (e3 _ _ (e2 _ _ ht)), List.getElem?_eq_getElem _⟩
  · exact ⟨vs, SqL.of (e3 _ _ (e2 _ _ ht)), by omega⟩
  · obtain ⟨rfl, hy⟩ := hy
    obtain ⟨d, h1, h2⟩ := rr.getV (hy vs (SqL.of (e3 _ _ (e2 _ _ ht))))
    exact ⟨d, h1, .inl ⟨rfl, Rep.mono e2 _ _ h2⟩⟩⟩
theorem src_tup (h : PD X ρ a ρ1 (.tup xs)) : Src X tg a ρ ρ1 xs := ⟨_, pi_tup pe_w, fun _ _ _ _ _ ev R q => h _ _ _ _ _ ev _ fun v Hb1 H1 e1 x1 r1 => by
  obtain ⟨t, vs, rfl, ht, rr⟩ := r1.tup
  have hl := rr.length
  refine ⟨t, rfl, ⟨vs, e1.sub.sqt ht⟩, q _ Hb1 H1 e1 x1 ⟨fun k Hb H e2 e3 hk => ?_, fun k Hb H e2 e3 hk => ?_, fun k Hb H v H' e2 e3 hy hk => ?_⟩⟩
  · exact ⟨vs, vs[k]'(by omega), e3.sqt (e2.sqt ht), List.getElem?_eq_getElem _⟩
  · exact ⟨vs, e3.sqt (e2.sqt ht), by omega⟩
  · obtain ⟨rfl, hy⟩ := hy
    obtain ⟨d, h1, h2⟩ := rr.getV (hy vs (e3.sqt (e2.sqt ht)))
    exact ⟨d, h1, .inl ⟨rfl, Rep.mono e2 _ _ h2⟩⟩⟩
/-- the whole numbers lo .. lo + n - 1 -/
def rgFrom (lo : Int) (n : Nat) : List D := (List.range n).map fun (i : Nat) => D.int (lo + i)
theorem rgFrom_get {lo : Int} {n k : Nat} (h : k < n) : (rgFrom lo n)[k]? = some (.int (lo + k)) := by
  unfold rgFrom
  rw [List.getElem?_map, List.getElem?_range h]; rfl
theorem rgFrom_len (lo : Int) (n : Nat) : (rgFrom lo n).length = n := by unfold rgFrom; rw [List.length_map, List.length_range]
theorem src_range1 (mr : X.mg "range" = none) (h : PD X ρ a ρ1 (.int i)) (hb : -(2 ^ 62) ≤ i ∧ i < 2 ^ 62) (hg : Gl X "range" := by rfl) (hs : starEach [a] X.env = [(false, eval a X.env)] := by rfl) :
    Src X tg (.Call (.Name "range" p) [a] [] pos) ρ ρ1 (rgFrom 0 i.toNat) := ⟨_, pi_range1 hg mr (pa_cons pe_w pa_nil hs) hs, fun _ _ _ _ _ ev R q => h _ _ _ _ _ ev _ fun v Hb1 H1 e1 x1 r1 =>
  ⟨i, by rw [r1.int], hb.1, hb.2, q _ Hb1 H1 e1 x1 ⟨fun k Hb H e2 e3 hk => by rw [rgFrom_len] at hk; exact hk, fun k Hb H e2 e3 hk => by rw [rgFrom_len] at hk; exact hk, fun k Hb H v H' e2 e3 hy hk => by
    rw [rgFrom_len] at hk
    obtain ⟨rfl, rfl⟩ := hy
    exact ⟨_, rgFrom_get hk, .inl ⟨rfl, rep_int⟩⟩⟩⟩⟩
theorem src_range2 (mr : X.mg "range" = none) (h : PD X ρ a ρ1 (.int i)) (h2 : PD X ρ1 b ρ2 (.int j)) (hb : -(2 ^ 62) ≤ i ∧ i < 2 ^ 62 ∧ -(2 ^ 62) ≤ j ∧ j < 2 ^ 62) (hg : Gl X "range" := by rfl)
    (hs : starEach [a, b] X.env = [(false, eval a X.env), (false, eval b X.env)] := by rfl) (hs2 : starEach [b] X.env = [(false, eval b X.env)] := by rfl) (na : starEach [a, b] X.env = (false, eval a X.env) :: starEach [b] X.env := by rfl) :
    Src X tg (.Call (.Name "range" p) [a, b] [] pos) ρ ρ2 (rgFrom i (j - i).toNat) := ⟨_, pi_range2 hg mr (pa_cons pe_w (pa_cons pe_w pa_nil hs2) na) hs hs2, fun _ _ _ _ _ ev R q => h _ _ _ _ _ ev _ fun v Hb1 H1 e1 x1 r1 => h2 _ _ _ _ _ e1 _ fun w Hb2 H2 e2 x2 r2 =>
  ⟨i, j, by rw [r1.int, r2.int], hb, q _ Hb2 H2 e2 (x1.trans x2) ⟨fun k Hb H e2 e3 hk => by rw [rgFrom_len] at hk; exact hk, fun k Hb H e2 e3 hk => by rw [rgFrom_len] at hk; exact hk, fun k Hb H v H' e2 e3 hy hk => by
    rw [rgFrom_len] at hk
    obtain ⟨rfl, rfl⟩ := hy
    exact ⟨_, rgFrom_get hk, .inl ⟨rfl, rep_int⟩⟩⟩⟩⟩
/-- pairs of the place and the datum -/
def enD (xs : List D) : List D := (List.range xs.length).map fun (i : Nat) => D.tup [.int (i : Int), xs.getD i .non]
theorem enD_len (xs : List D) : (enD xs).length = xs.length := by unfold enD; rw [List.length_map, List.length_range]
theorem enD_get {xs : List D} {k : Nat} {d : D} (h : xs[k]? = some d) : (enD xs)[k]? = some (.tup [.int (k : Int), d]) := by
  have hk := (List.getElem?_eq_some_iff.mp h).1
  unfold enD
  rw [List.getElem?_map, List.getElem?_range hk]
  simp [List.getD, h]
theorem src_enum {elts : List Expr} {kk : Nat} {tpos : Pos} (me : X.mg "enumerate" = none) (h : PD X ρ a ρ1 (.lst xs)) (hg : Gl X "enumerate" := by rfl) (hs : starEach [a] X.env = [(false, eval a X.env)] := by rfl) :
    Src X (.Tuple elts kk tpos) (.Call (.Name "enumerate" p) [a] [] pos) ρ ρ1 (enD xs) := ⟨_, pi_enum hg me (pa_cons pe_w pa_nil hs) hs, fun _ _ _ _ _ ev R q => h _ _ _ _ _ ev _ fun v Hb1 H1 e1 x1 r1 => by
  obtain ⟨t, vs, rfl, ht, rr⟩ := r1.lst
  have hl := rr.length
  refine ⟨t, vs, rfl, SqL.of (e1.sub _ _ ht), q _ Hb1 H1 e1 x1 ⟨fun k Hb H e2 e3 hk => ?_, fun k Hb H e2 e3 hk => ?_, fun k Hb H v H' e2 e3 hy hk => ?_⟩⟩
  · rw [enD_len] at hk; exact ⟨vs, vs[k]'(by omega), SqL.of (e3 _ _ (e2 _ _ ht)), List.getElem?_eq_getElem _⟩
  · rw [enD_len] at hk; exact ⟨vs, SqL.of (e3 _ _ (e2 _ _ ht)), by omega⟩
  · obtain ⟨T, w, rfl, hT, rfl, hy⟩ := hy
    obtain ⟨d, h1, h2⟩ := rr.getV (hy vs (SqL.of (e3 _ _ (e2 _ _ ht))))
    exact ⟨_, enD_get h1, .inr ⟨T, _, hT, rfl, rep_tup (SqT.of upd_same) (.cons rep_int (.cons (Rep.mono (e2.trans (Ex.new (e3.free hT))) _ _ h2) .nil))⟩⟩⟩
/-- pairs of the data of two lists -/
def zipD (xs ys : List D) : List D := List.zipWith (fun a b => D.tup [a, b]) xs ys
theorem zipD_get {xs ys : List D} {k : Nat} {d d' : D} (h : xs[k]? = some d) (h' : ys[k]? = some d') : (zipD xs ys)[k]? = some (.tup [d, d']) := by
  unfold zipD
  rw [List.getElem?_zipWith, h, h']
theorem zipD_len (xs ys : List D) : (zipD xs ys).length = min xs.length ys.length := by unfold zipD; rw [List.length_zipWith]
theorem src_zipL {elts : List Expr} {kk : Nat} {tpos : Pos} (me : X.mg "zip" = none) (h : PD X ρ a ρ1 (.lst xs)) (h' : PD X ρ1 b ρ2 (.lst ys)) (hg : Gl X "zip" := by rfl) (hs : starEach [a, b] X.env = (false, eval a X.env) :: starEach [b] X.env := by rfl)
    (hs2 : starEach [b] X.env = (false, eval b X.env) :: starEach [] X.env := by rfl) (hpl : (backTo pos (starEach [b] X.env)).any (·.1) = false := by rfl) :
    Src X (.Tuple elts kk tpos) (.Call (.Name "zip" p) [a, b] [] pos) ρ ρ2 (zipD xs ys) := ⟨_, RZ.pi_zipA hg me (pa_cons pe_w (pa_cons pe_w pa_nil hs2) hs) hs hpl, fun _ _ _ _ _ ev R q => h _ _ _ _ _ ev _ fun v Hb1 H1 e1 x1 r1 => h' _ _ _ _ _ e1 _ fun w Hb2 H2 e2 x2 r2 => by
  obtain ⟨t, vs, rfl, ht, rr⟩ := r1.lst
  obtain ⟨u, ws, rfl, hu, rw'⟩ := r2.lst
  have hl := rr.length
  have hl' := rw'.length
  have ht2 := x2 _ _ ht
  refine ⟨t, u, vs, ws, rfl, .inl ⟨SqL.of (e2.sub _ _ ht2), SqL.of (e2.sub _ _ hu), q _ Hb2 H2 e2 (x1.trans x2) ⟨fun k Hb H e3 e4 hk => ?_, fun k Hb H e3 e4 hk => ?_, fun k Hb H v H' e3 e4 hy hk => ?_⟩⟩⟩
  · rw [zipD_len] at hk
    exact ⟨vs, ws, vs[k]'(by omega), ws[k]'(by omega), SqL.of (e4 _ _ (e3 _ _ ht2)), SqL.of (e4 _ _ (e3 _ _ hu)), List.getElem?_eq_getElem _, List.getElem?_eq_getElem _⟩
  · rw [zipD_len] at hk; exact ⟨vs, ws, SqL.of (e4 _ _ (e3 _ _ ht2)), SqL.of (e4 _ _ (e3 _ _ hu)), by omega⟩
  · obtain ⟨T, v1, v2, rfl, hT, rfl, hy, hy2⟩ := hy
    obtain ⟨d, h1, h2⟩ := rr.getV (hy vs (SqL.of (e4 _ _ (e3 _ _ ht2))))
    obtain ⟨d', h1', h2'⟩ := rw'.getV (hy2 ws (SqL.of (e4 _ _ (e3 _ _ hu))))
    have g := e3.trans (Ex.new (o := .tup [v1, v2]) (e4.free hT))
    exact ⟨_, zipD_get h1 h1', .inr ⟨T, _, hT, rfl, rep_tup (SqT.of upd_same) (.cons (Rep.mono (x2.trans g) _ _ h2) (.cons (Rep.mono g _ _ h2') .nil))⟩⟩⟩
theorem src_zipT {elts : List Expr} {kk : Nat} {tpos : Pos} (me : X.mg "zip" = none) (h : PD X ρ a ρ1 (.tup xs)) (h' : PD X ρ1 b ρ2 (.tup ys)) (hg : Gl X "zip" := by rfl) (hs : starEach [a, b] X.env = (false, eval a X.env) :: starEach [b] X.env := by rfl)
    (hs2 : starEach [b] X.env = (false, eval b X.env) :: starEach [] X.env := by rfl) (hpl : (backTo pos (starEach [b] X.env)).any (·.1) = false := by rfl) :
    Src X (.Tuple elts kk tpos) (.Call (.Name "zip" p) [a, b] [] pos) ρ ρ2 (zipD xs ys) := ⟨_, RZ.pi_zipA hg me (pa_cons pe_w (pa_cons pe_w pa_nil hs2) hs) hs hpl, fun _ _ _ _ _ ev R q => h _ _ _ _ _ ev _ fun v Hb1 H1 e1 x1 r1 => h' _ _ _ _ _ e1 _ fun w Hb2 H2 e2 x2 r2 => by
  obtain ⟨t, vs, rfl, ht, rr⟩ := r1.tup
  obtain ⟨u, ws, rfl, hu, rw'⟩ := r2.tup
  have hl := rr.length
  have hl' := rw'.length
  have ht2 := x2.sqt ht
  refine ⟨t, u, vs, ws, rfl, .inr ⟨e2.sub.sqt ht2, e2.sub.sqt hu, q _ Hb2 H2 e2 (x1.trans x2) ⟨fun k Hb H e3 e4 hk => ?_, fun k Hb H e3 e4 hk => ?_, fun k Hb H v H' e3 e4 hy hk => ?_⟩⟩⟩
  · rw [zipD_len] at hk
    exact ⟨vs, ws, vs[k]'(by omega), ws[k]'(by omega), e4.sqt (e3.sqt ht2), e4.sqt (e3.sqt hu), List.getElem?_eq_getElem _, List.getElem?_eq_getElem _⟩
  · rw [zipD_len] at hk; exact ⟨vs, ws, e4.sqt (e3.sqt ht2), e4.sqt (e3.sqt hu), by omega⟩
  · obtain ⟨T, v1, v2, rfl, hT, rfl, hy, hy2⟩ := hy
    obtain ⟨d, h1, h2⟩ := rr.getV (hy vs (e4.sqt (e3.sqt ht2)))
    obtain ⟨d', h1', h2'⟩ := rw'.getV (hy2 ws (e4.sqt (e3.sqt hu)))
    have g := e3.trans (Ex.new (o := .tup [v1, v2]) (e4.free hT))
    exact ⟨_, zipD_get h1 h1', .inr ⟨T, _, hT, rfl, rep_tup (SqT.of upd_same) (.cons (Rep.mono (x2.trans g) _ _ h2) (.cons (Rep.mono g _ _ h2') .nil))⟩⟩⟩
/-! ### the entry heaps may be taken later -/
theorem EnvS.base {B : Bs} {Hb0 H0 Hb H Hb1 : Hp} {ρ : List E} {σ : L2.St} (e : EnvS B Hb0 H0 ρ σ Hb H) (x : Ex Hb1 Hb) (f : ∀ a o, H0 a = some o → Hb1 a = Hb0 a) : EnvS B Hb1 H0 ρ σ Hb H :=
  ⟨e.len, x, e.ex1, e.sub, fun a o h => (e.fr a o h).trans (f a o h).symm, e.dat, e.own, e.ap⟩
theorem EnvS.unbase {B : Bs} {Hb0 H0 Hb H Hb1 : Hp} {ρ : List E} {σ : L2.St} (e : EnvS B Hb1 H0 ρ σ Hb H) (x : Ex Hb0 Hb1) (f : ∀ a o, H0 a = some o → Hb1 a = Hb0 a) : EnvS B Hb0 H0 ρ σ Hb H :=
  ⟨e.len, x.trans e.ex0, e.ex1, e.sub, fun a o h => (e.fr a o h).trans (f a o h), e.dat, e.own, e.ap⟩
/-! ### for -/
theorem sd_for (I : Nat → List E → Prop) (hs : Src X tg e ρ ρ1 xs) (h0 : I 0 ρ1)
    (turn : ∀ (k : Nat) d ρ, xs[k]? = some d → I k ρ → ∃ js ρ', GD X tg js ρ d ρ' ∧ SDs X ρ' body { nx := I (k + 1), ct := I (k + 1), bk := P.nx, rt := P.rt }) (hd : ∀ ρ, I xs.length ρ → P.nx ρ)
    (hp : PassesOwn (model X.prog X.w) X.A X.env X.xe := by exact PassesOwn.never) (hc : X.calm = true := by rfl) (hf : ∀ x, foldedSetIterable e X.env x = pure x := by intro _; rfl) : SD X ρ (.For tg e body [] pos) P := fun Hb0 H0 σ Hb H ev => by
  obtain ⟨wi, hi, q⟩ := hs
  refine (ps_for hp hc hi pg_w pss_w hf).w ?_
  refine q _ _ _ _ _ ev _ fun J Hb1 H1 ev1 x1 ok => ?_
  obtain ⟨go, stop, yld⟩ := ok
  refine ⟨fun i m σ' H' => m = xs.length - i ∧ i ≤ xs.length ∧ ∃ ρ' Hb', EnvS (bs X) Hb0 H0 ρ' σ' Hb' H' ∧ Ex Hb1 Hb' ∧ I i ρ', ⟨xs.length, by simp, Nat.zero_le _, ρ1, Hb1, ev1, Ex.refl _, h0⟩, ?_⟩
  rintro i m σ' H' ⟨rfl, hi', ρ', Hb', ev', x', inv⟩
  by_cases hlt : i < xs.length
  · refine .inr ⟨go i Hb' H' x' ev'.sub hlt, fun σ2 H2 => ∃ ρ2 Hb2, EnvS (bs X) Hb0 H0 ρ2 σ2 Hb2 H2 ∧ Ex Hb1 Hb2 ∧ I (i + 1) ρ2, fun σ2 H2 ⟨ρ2, Hb2, e2, x2, i2⟩ => ⟨_, by omega, rfl, hlt, ρ2, Hb2, e2, x2, i2⟩, fun v H2 hy => ?_⟩
    obtain ⟨d, hd', hh⟩ := yld i Hb' H' v H2 x' ev'.sub hy hlt
    obtain ⟨js, ρ2, hg, hb⟩ := turn i d ρ' hd' inv
    have f1 : ∀ a o, H0 a = some o → Hb1 a = Hb0 a := ev1.fr
    have done : ∀ Hb2 H2, EnvS (bs X) Hb0 H0 ρ' σ' Hb2 H2 → Ex Hb1 Hb2 → Rep (bs X) Hb2 d v → WG X tg v σ' H2 fun σ2 H3 => WSs X body { nx := fun σ2 H2 => ∃ ρ2 Hb2, EnvS (bs X) Hb0 H0 ρ2 σ2 Hb2 H2 ∧ Ex Hb1 Hb2 ∧ I (i + 1) ρ2, rt := (P.ends (bs X) Hb0 H0).rt, bk := (P.ends (bs X) Hb0 H0).nx, ct := fun σ2 H2 => ∃ ρ2 Hb2, EnvS (bs X) Hb0 H0 ρ2 σ2 Hb2 H2 ∧ Ex Hb1 Hb2 ∧ I (i + 1) ρ2 } σ2 H3 := fun Hb2 H2 e2 x2 r2 => by
      refine hg Hb1 H0 σ' Hb2 H2 v (e2.base x2 f1) r2 _ fun σ3 Hb3 H3 e3 x3 _ _ => ?_
      refine WSs.mono (hb Hb1 H0 σ3 Hb3 H3 e3) (fun σ4 H4 h => ?_) (fun v4 H4 h => ?_) (fun σ4 H4 h => ?_) (fun σ4 H4 h => ?_)
      · obtain ⟨ρ4, Hb4, e4, i4⟩ := h
        exact ⟨ρ4, Hb4, e4.unbase ev1.ex0 f1, e4.ex0, i4⟩
      · obtain ⟨ρ4, σ4, Hb4, d4, e4, r4, i4⟩ := h
        exact ⟨ρ4, σ4, Hb4, d4, e4.unbase ev1.ex0 f1, r4, i4⟩
      · obtain ⟨ρ4, Hb4, e4, i4⟩ := h
        exact ⟨ρ4, Hb4, e4.unbase ev1.ex0 f1, i4⟩
      · obtain ⟨ρ4, Hb4, e4, i4⟩ := h
        exact ⟨ρ4, Hb4, e4.unbase ev1.ex0 f1, e4.ex0, i4⟩
    rcases hh with ⟨rfl, r⟩ | ⟨T, o, hT, rfl, r⟩
    · exact done Hb' _ ev' x' r
    · exact done _ _ (ev'.new hT) (x'.trans (Ex.new (ev'.sub.free hT))) r
  · have e1 : i = xs.length := by omega
    subst e1
    exact .inl ⟨stop _ Hb' H' x' ev'.sub (Nat.le_refl _), ρ', Hb', ev', hd ρ' inv⟩
/-! ### while -/
theorem sd_while (I : List E → Prop) (μ : List E → Nat) (h0 : I ρ)
    (turn : ∀ ρ, I ρ → ∃ v ρ1, PTD X ρ c ρ1 v ∧ (v = true → SDs X ρ1 body { nx := fun ρ' => I ρ' ∧ μ ρ' < μ ρ, ct := fun ρ' => I ρ' ∧ μ ρ' < μ ρ, bk := P.nx, rt := P.rt }) ∧ (v = false → P.nx ρ1))
    (hp : PassesOwn (model X.prog X.w) X.A X.env X.xe := by exact PassesOwn.never) : SD X ρ (.While c body [] pos) P := fun Hb0 H0 σ Hb H ev => by
  refine (ps_while hp pt_w pss_w).w ?_
  refine ⟨fun m σ' H' => ∃ ρ' Hb', EnvS (bs X) Hb0 H0 ρ' σ' Hb' H' ∧ I ρ' ∧ μ ρ' = m, ⟨_, ρ, Hb, ev, h0, rfl⟩, ?_⟩
  rintro m σ' H' ⟨ρ', Hb', ev', inv, rfl⟩
  obtain ⟨v, ρ1, ht, hb, hn⟩ := turn ρ' inv
  refine ht _ _ _ _ _ ev' _ fun Hb1 H1 e1 x1 => ?_
  cases v with
  | true =>
    rw [if_pos rfl]
    refine ⟨fun σ2 H2 => ∃ ρ2 Hb2, EnvS (bs X) Hb0 H0 ρ2 σ2 Hb2 H2 ∧ I ρ2 ∧ μ ρ2 < μ ρ', fun σ2 H2 ⟨ρ2, Hb2, e2, i2, l2⟩ => ⟨_, l2, ρ2, Hb2, e2, i2, rfl⟩, ?_⟩
    exact WSs.mono (hb rfl _ _ _ _ _ e1) (fun _ _ ⟨r, b, a, q, l⟩ => ⟨r, b, a, q, l⟩) (fun _ _ q => q) (fun _ _ q => q) (fun _ _ ⟨r, b, a, q, l⟩ => ⟨r, b, a, q, l⟩)
  | false =>
    rw [if_neg Bool.false_ne_true]
    exact ⟨ρ1, Hb1, e1, hn rfl⟩
end
end WL
set_option Elab.async false
set_option linter.all false
set_option maxRecDepth 100000
set_option maxHeartbeats 4000000
namespace WL
open PySem PySem.Spec PyProof.Rows L2
theorem wipe_get (σ : L2.St) (i : Nat) : ∀ vs : List Nat, (wipe σ vs)[i]? = if i ∈ vs ∧ i < σ.length then some none else σ[i]?
  | [] => by simp [wipe]
  | v :: vs => by
    show ((wipe σ vs).set v none)[i]? = _
    rw [get_set, wipe_length, wipe_get σ i vs]
    by_cases h1 : v = i
    · subst h1
      by_cases h2 : v < σ.length
      · rw [if_pos ⟨rfl, h2⟩, if_pos ⟨by simp, h2⟩]
      · rw [if_neg (fun z => h2 z.2), if_neg (fun z => h2 z.2), if_neg (fun z => h2 z.2)]
    · rw [if_neg (fun z => h1 z.1)]
      by_cases h3 : i ∈ vs ∧ i < σ.length
      · rw [if_pos h3, if_pos ⟨by simp [h3.1], h3.2⟩]
      · rw [if_neg h3, if_neg (fun z => h3 ⟨by
          rcases List.mem_cons.mp z.1 with q | q
          · exact absurd q.symm h1
          · exact q, z.2⟩)]
theorem wipe_eq {σ σ' : L2.St} {vs : List Nat} (h : ∀ i : Nat, i ∉ vs → σ'[i]? = σ[i]?) (hl : σ'.length = σ.length) : wipe σ' vs = wipe σ vs := List.ext_getElem? fun i => by
  rw [wipe_get, wipe_get, hl]
  by_cases h1 : i ∈ vs
  · by_cases h2 : i < σ.length
    · rw [if_pos ⟨h1, h2⟩, if_pos ⟨h1, h2⟩]
    · rw [if_neg (fun z => h2 z.2), if_neg (fun z => h2 z.2), List.getElem?_eq_none (by omega), List.getElem?_eq_none (by omega)]
  · rw [if_neg (fun z => h1 z.1), if_neg (fun z => h1 z.1), h i h1]
/-- the slots of no interest may hold anything -/
theorem EnvS.agree {B : Bs} {Hb0 H0 Hb H : Hp} {ρ : List E} {σ σ' : L2.St} (e : EnvS B Hb0 H0 ρ σ Hb H) (hl : σ'.length = σ.length) (h : ∀ i : Nat, ρ[i]? ≠ some E.no → σ'[i]? = σ[i]?) : EnvS B Hb0 H0 ρ σ' Hb H :=
  ⟨hl.trans e.len, e.ex0, e.ex1, e.sub, e.fr, fun i x q => by rw [h i (fun z => by rw [q] at z; cases z)]; exact e.dat i x q, fun i l o q => by rw [h i (fun z => by rw [q] at z; cases z)]; exact e.own i l o q, e.ap⟩
def dropE (js : List Nat) (ρ : List E) : List E := js.foldl (fun r j => r.set j E.no) ρ
theorem EnvS.drops {B : Bs} {Hb0 H0 Hb H : Hp} {σ : L2.St} : ∀ (js : List Nat) {ρ : List E}, EnvS B Hb0 H0 ρ σ Hb H → EnvS B Hb0 H0 (dropE js ρ) σ Hb H
  | [], _, e => e
  | j :: js, _, e => EnvS.drops js (e.drop j)
theorem EnvS.prot {B : Bs} {Hb0 H0 Hb H Hb1 : Hp} {ρ : List E} {σ : L2.St} {D : Addr} {ho : HO} (e : EnvS B Hb0 H0 ρ σ Hb H) (x : Ex Hb1 Hb) (f : ∀ a o, H0 a = some o → Hb1 a = Hb0 a) (nb : Hb D = none) (hD : H D = some ho) (no : NotOwn ρ D) : EnvS B Hb1 (upd H0 D ho) ρ σ Hb H where
  len := e.len
  ex0 := x
  ex1 := fun a o h => by
    by_cases q : a = D
    · subst q; rw [upd_same] at h; rw [hD]; exact h
    · rw [upd_ne q] at h; exact e.ex1 a o h
  sub := e.sub
  fr := fun a o h => by
    by_cases q : a = D
    · subst q; rw [nb, x.free nb]
    · rw [upd_ne q] at h; exact (e.fr a o h).trans (f a o h).symm
  dat := e.dat
  own := fun i l o h => by
    obtain ⟨h1, h2, h3, h4⟩ := e.own i l o h
    exact ⟨h1, h2, by rw [upd_ne (fun q => no i o (by rw [← q]; exact h))]; exact h3, h4⟩
  ap := e.ap
theorem EnvS.protOut {B : Bs} {H0 Hb H Hb1 : Hp} {ρ : List E} {σ : L2.St} {D : Addr} {ho : HO} (e : EnvS B Hb1 (upd H0 D ho) ρ σ Hb H) (nb : Hb1 D = none) : H D = some ho ∧ Hb D = none ∧ NotOwn ρ D :=
  ⟨e.ex1 D ho upd_same, (e.fr D ho upd_same).trans nb, fun i o h => by
    have := (e.own i D o h).2.2.1
    rw [upd_same] at this; cases this⟩
theorem EnvS.unprot {B : Bs} {Hb0 H0 Hb H Hb1 : Hp} {ρ : List E} {σ : L2.St} {D : Addr} {ho ho' : HO} (e : EnvS B Hb1 (upd H0 D ho) ρ σ Hb H) (nb : Hb1 D = none) (n0 : H0 D = none) (x : Ex Hb0 Hb1) (f : ∀ a o, H0 a = some o → Hb1 a = Hb0 a) : EnvS B Hb0 H0 ρ σ Hb (upd H D ho') := by
  obtain ⟨k1, k2, k3⟩ := e.protOut nb
  refine ⟨e.len, x.trans e.ex0, fun a o h => ?_, fun a o h => ?_, fun a o h => ?_, e.dat, fun i l o h => ?_, e.ap⟩
  · have q : a ≠ D := ne_of_none h n0
    rw [upd_ne q]
    exact e.ex1 a o (by rw [upd_ne q]; exact h)
  · rw [upd_ne (ne_of_none h k2)]; exact e.sub a o h
  · have q : a ≠ D := ne_of_none h n0
    exact (e.fr a o (by rw [upd_ne q]; exact h)).trans (f a o h)
  · obtain ⟨h1, h2, h3, u, h4, h5⟩ := e.own i l o h
    have q : l ≠ D := fun q => k3 i o (by rw [← q]; exact h)
    rw [upd_ne q] at h3
    exact ⟨h1, h2, h3, u, by rw [upd_ne q]; exact h4, h5⟩
section
variable (X : Cx) (scope : Scope)
def wgB (tg : Expr) : TG := fun v σ H Q => ∀ s H' C cl fp, WG (X.blk s H' scope (compEnvC scope cl C X.env) fp) tg v σ H Q
def wtB (c : Expr) : TT := fun σ H Q => ∀ s H' C cl fp, WT (X.blk s H' scope (compEnvC scope cl C X.env) fp) c σ H Q
def weB (c : Expr) : TE := fun σ H Q => ∀ s H' C cl fp, W (X.blk s H' scope (compEnvC scope cl C X.env) fp) c σ H Q
def ttB : List Expr → TT
  | [] => tYes
  | [c] => wtB X scope c
  | _ => fun _ _ _ => False
/-- in every block of the comprehension -/
def GDb (tg : Expr) (js : List Nat) (ρ : List E) (d : D) (ρ' : List E) : Prop := ∀ s H C cl fp, GD (X.blk s H scope (compEnvC scope cl C X.env) fp) tg js ρ d ρ'
def PDb (ρ : List E) (e : Expr) (ρ' : List E) (d : D) : Prop := ∀ s H C cl fp, PD (X.blk s H scope (compEnvC scope cl C X.env) fp) ρ e ρ' d
def PTDb (ρ : List E) (e : Expr) (ρ' : List E) (b : Bool) : Prop := ∀ s H C cl fp, PTD (X.blk s H scope (compEnvC scope cl C X.env) fp) ρ e ρ' b
def TDb (ifs : List Expr) (ρ1 ρ2 : List E) (b : Bool) : Prop := (ifs = [] ∧ ρ2 = ρ1 ∧ b = true) ∨ ∃ c, ifs = [c] ∧ PTDb X scope ρ1 c ρ2 b
end
section
variable {X : Cx} {scope : Scope} {ρ ρ' ρ0 ρ1 ρ2 ρ3 ρ4 : List E} {e a b c tg iter elt : Expr} {es ifs : List Expr} {pos p pos' : Pos} {d x y z : D} {ds xs ys : List D} {i j k : Int} {P : Post} {vs js : List Nat}
/-- a list comprehension's derivation and what it gives -/
def LcR (X : Cx) (ρ : List E) (elt tg iter : Expr) (ifs : List Expr) (scope : Scope) (vs : List Nat) (ρ' : List E) (ds : List D) : Prop := ∃ wi, PI X tg iter wi ∧ (ifs = [] ∨ ∃ c, ifs = [c]) ∧ ∀ Hb0 H0 σ Hb H, EnvS (bs X) Hb0 H0 ρ σ Hb H → ∀ Q : VK,
  (∀ l Hb' H' ho, EnvS (bs X) Hb0 H0 ρ' σ Hb' H' → Ex Hb Hb' → Hb' l = none → H0 l = none → H' l = some ho → ORep (bs X) Hb' l (.lst ds) ho → NotOwn ρ' l → Q (.ref l) H') → tLc wi (wgB X scope tg) (ttB X scope ifs) (weB X scope elt) vs σ H Q
theorem lcr (hs : Src X tg iter ρ ρ0 xs) (S : Nat → List E) (out : Nat → List D) (js vs : List Nat) (h0 : S 0 = ρ0) (o0 : out 0 = []) (hjs : ∀ j ∈ js, j ∈ vs) (hno : ∀ k : Nat, k ≤ xs.length → ∀ i ∈ vs, (S k)[i]? = some E.no) (hlen : xs.length < 100000) (hifs : ifs = [] ∨ ∃ c, ifs = [c])
    (turn : ∀ (k : Nat) d, xs[k]? = some d → ∃ ρ1 ρ2 v, GDb X scope tg js (S k) d ρ1 ∧ TDb X scope ifs ρ1 ρ2 v ∧ (v = true → ∃ ρ3 y, PDb X scope ρ2 elt ρ3 y ∧ dropE js ρ3 = S (k + 1) ∧ out (k + 1) = out k ++ [y]) ∧ (v = false → dropE js ρ2 = S (k + 1) ∧ out (k + 1) = out k)) :
    LcR X ρ elt tg iter ifs scope vs (S xs.length) (out xs.length) := by
  obtain ⟨wi, hi, q⟩ := hs
  refine ⟨wi, hi, hifs, fun Hb0 H0 σ Hb H ev Q qq => q _ _ _ _ _ ev _ fun J Hb1 H1 ev1 x1 ok D hD => ?_⟩
  obtain ⟨go, stop, yld⟩ := ok
  subst h0
  have nb1 : Hb1 D = none := ev1.sub.free hD
  have n0 : H0 D = none := ev1.ex1.free hD
  have f1 : ∀ a o, H0 a = some o → Hb1 a = Hb0 a := ev1.fr
  have toW : ∀ {k : Nat} {Hb H}, k ≤ xs.length → EnvS (bs X) Hb0 H0 (S k) σ Hb H → EnvS (bs X) Hb0 H0 (S k) (wipe σ vs) Hb H := fun {k Hb H} hk e => e.agree (wipe_length _ _) fun i hi => by
    rw [wipe_get, if_neg]
    exact fun z => hi (hno k hk i z.1)
  have ofW : ∀ {k : Nat} {Hb H}, k ≤ xs.length → EnvS (bs X) Hb0 H0 (S k) (wipe σ vs) Hb H → EnvS (bs X) Hb0 H0 (S k) σ Hb H := fun {k Hb H} hk e => e.agree (wipe_length _ _).symm fun i hi => by
    rw [wipe_get, if_neg]
    exact fun z => hi (hno k hk i z.1)
  refine ⟨fun i m H' => m = xs.length - i ∧ i ≤ xs.length ∧ ∃ Hb' acc, EnvS (bs X) Hb0 H0 (S i) (wipe σ vs) Hb' H' ∧ Ex Hb1 Hb' ∧ Hb' D = none ∧ H' D = some (.lst acc) ∧ Reps (bs X) Hb' (out i) acc ∧ acc.length ≤ i ∧ NotOwn (S i) D,
    ⟨xs.length, by simp, Nat.zero_le _, Hb1, [], (toW (Nat.zero_le _) ev1).newO hD, Ex.refl _, nb1, upd_same, by rw [o0]; exact .nil, Nat.le_refl _, ev1.notOwn hD⟩, ?_⟩
  rintro i m H' ⟨rfl, hi', Hb', acc, ev', x', nb', hD', rr, hz, no⟩
  by_cases hlt : i < xs.length
  · refine .inr ⟨go i Hb' H' x' ev'.sub hlt, fun H2 => ∃ Hb2 acc2, EnvS (bs X) Hb0 H0 (S (i + 1)) (wipe σ vs) Hb2 H2 ∧ Ex Hb1 Hb2 ∧ Hb2 D = none ∧ H2 D = some (.lst acc2) ∧ Reps (bs X) Hb2 (out (i + 1)) acc2 ∧ acc2.length ≤ i + 1 ∧ NotOwn (S (i + 1)) D,
      fun H2 ⟨Hb2, acc2, h⟩ => ⟨_, by omega, rfl, hlt, Hb2, acc2, h⟩, fun v H2 hy => ?_⟩
    obtain ⟨d, hd', hh⟩ := yld i Hb' H' v H2 x' ev'.sub hy hlt
    obtain ⟨ρ1, ρ2, bb, hg, ht, hyes, hno'⟩ := turn i d hd'
    have done : ∀ Hb2 H2, EnvS (bs X) Hb0 H0 (S i) (wipe σ vs) Hb2 H2 → Ex Hb' Hb2 → Hb2 D = none → H2 D = some (.lst acc) → Rep (bs X) Hb2 d v →
        wgB X scope tg v (wipe σ vs) H2 fun σ2 H2 => wipe σ2 vs = wipe σ vs ∧ ttB X scope ifs σ2 H2 fun b H3 => if b = true then weB X scope elt σ2 H3 fun y H4 => ∃ acc, H4 D = some (.lst acc) ∧ acc.length < sizeLine ∧ (∃ Hb2 acc2, EnvS (bs X) Hb0 H0 (S (i + 1)) (wipe σ vs) Hb2 (upd H4 D (.lst (acc ++ [y]))) ∧ Ex Hb1 Hb2 ∧ Hb2 D = none ∧ (upd H4 D (.lst (acc ++ [y]))) D = some (.lst acc2) ∧ Reps (bs X) Hb2 (out (i + 1)) acc2 ∧ acc2.length ≤ i + 1 ∧ NotOwn (S (i + 1)) D)
          else (∃ Hb2 acc2, EnvS (bs X) Hb0 H0 (S (i + 1)) (wipe σ vs) Hb2 H3 ∧ Ex Hb1 Hb2 ∧ Hb2 D = none ∧ H3 D = some (.lst acc2) ∧ Reps (bs X) Hb2 (out (i + 1)) acc2 ∧ acc2.length ≤ i + 1 ∧ NotOwn (S (i + 1)) D) := by
      intro Hb2 H2 e2 x2 nb2 hD2 r2
      intro s0 h0 C0 cl0 fp0
      have p2 : EnvS (bs X) Hb1 (upd H0 D (.lst acc)) (S i) (wipe σ vs) Hb2 H2 := e2.prot (x'.trans x2) f1 nb2 hD2 no
      refine hg s0 h0 C0 cl0 fp0 _ _ _ _ _ v p2 r2 _ fun σ3 Hb3 H3 e3 x3 k3 l3 => ?_
      have hw3 : wipe σ3 vs = wipe σ vs := by
        rw [wipe_eq (σ := wipe σ vs) (fun i hi => k3 i fun z => hi (hjs i z)) l3]
        exact wipe_eq (fun i hi => by rw [wipe_get, if_neg (fun z => hi z.1)]) (wipe_length _ _)
      refine ⟨hw3, ?_⟩
      -- behind the test
      have fin : ∀ {ρ4 Hb4 H4}, EnvS (bs X) Hb1 (upd H0 D (.lst acc)) ρ4 σ3 Hb4 H4 → dropE js ρ4 = S (i + 1) → ∀ ho', EnvS (bs X) Hb0 H0 (S (i + 1)) (wipe σ vs) Hb4 (upd H4 D ho') ∧ NotOwn (S (i + 1)) D := fun {ρ4 Hb4 H4} e4 hd4 ho' => by
        have e5 := e4.drops js
        rw [hd4] at e5
        have e6 : EnvS (bs X) Hb1 (upd H0 D (.lst acc)) (S (i + 1)) (wipe σ vs) Hb4 H4 := e5.agree (by rw [wipe_length, l3, wipe_length]) fun i' hi' => by
          have hv : i' ∉ vs := fun z => hi' (hno (i + 1) hlt i' z)
          rw [k3 i' fun z => hv (hjs i' z)]
        exact ⟨e6.unprot nb1 n0 ev1.ex0 f1, (e6.protOut nb1).2.2⟩
      have after : ∀ {Hb4 H4}, EnvS (bs X) Hb1 (upd H0 D (.lst acc)) ρ2 σ3 Hb4 H4 → Ex Hb3 Hb4 →
          if bb = true then weB X scope elt σ3 H4 fun y H4 => ∃ acc, H4 D = some (.lst acc) ∧ acc.length < sizeLine ∧ (∃ Hb2 acc2, EnvS (bs X) Hb0 H0 (S (i + 1)) (wipe σ vs) Hb2 (upd H4 D (.lst (acc ++ [y]))) ∧ Ex Hb1 Hb2 ∧ Hb2 D = none ∧ (upd H4 D (.lst (acc ++ [y]))) D = some (.lst acc2) ∧ Reps (bs X) Hb2 (out (i + 1)) acc2 ∧ acc2.length ≤ i + 1 ∧ NotOwn (S (i + 1)) D)
          else (∃ Hb2 acc2, EnvS (bs X) Hb0 H0 (S (i + 1)) (wipe σ vs) Hb2 H4 ∧ Ex Hb1 Hb2 ∧ Hb2 D = none ∧ H4 D = some (.lst acc2) ∧ Reps (bs X) Hb2 (out (i + 1)) acc2 ∧ acc2.length ≤ i + 1 ∧ NotOwn (S (i + 1)) D) := fun {Hb4 H4} e4 x4 => by
        cases bb with
        | true =>
          rw [if_pos rfl]
          obtain ⟨ρ3, y, he, hdr, hout⟩ := hyes rfl
          intro s1 h1 C1 cl1 fp1
          refine he s1 h1 C1 cl1 fp1 _ _ _ _ _ e4 _ fun w Hb5 H5 e5 x5 r5 => ?_
          obtain ⟨g1, g2, _⟩ := e5.protOut nb1
          refine ⟨acc, g1, Nat.lt_of_le_of_lt hz (Nat.lt_of_lt_of_le (Nat.lt_trans hlt hlen) (by decide)), Hb5, acc ++ [w], ?_⟩
          obtain ⟨z1, z2⟩ := fin e5 hdr (.lst (acc ++ [w]))
          refine ⟨z1, e5.ex0, g2, upd_same, ?_, by simp; omega, z2⟩
          rw [hout]
          exact (Reps.mono (((x2.trans x3).trans x4).trans x5) _ _ rr).append (.cons r5 .nil)
        | false =>
          rw [if_neg Bool.false_ne_true]
          obtain ⟨hdr, hout⟩ := hno' rfl
          obtain ⟨g1, g2, _⟩ := e4.protOut nb1
          obtain ⟨z1, z2⟩ := fin e4 hdr (.lst acc)
          have ez : upd H4 D (.lst acc) = H4 := by
            funext b
            by_cases hb : b = D
            · subst hb; rw [upd_same, g1]
            · rw [upd_ne hb]
          rw [ez] at z1
          refine ⟨Hb4, acc, z1, e4.ex0, g2, g1, ?_, by omega, z2⟩
          rw [hout]
          exact Reps.mono ((x2.trans x3).trans x4) _ _ rr
      rcases ht with ⟨rfl, rfl, rfl⟩ | ⟨c, rfl, ht⟩
      · exact after e3 (Ex.refl _)
      · intro s1 h1 C1 cl1 fp1
        exact ht s1 h1 C1 cl1 fp1 _ _ _ _ _ e3 _ fun Hb4 H4 e4 x4 => after e4 x4
    rcases hh with ⟨rfl, r⟩ | ⟨T, o, hT, rfl, r⟩
    · exact done Hb' _ ev' (Ex.refl _) nb' hD' r
    · have hTD : D ≠ T := ne_of_none hD' hT
      exact done _ _ (ev'.new hT) (Ex.new (ev'.sub.free hT)) (by rw [upd_ne hTD]; exact nb') (by rw [upd_ne hTD]; exact hD') r
  · have e1 : i = xs.length := by omega
    subst e1
    exact .inl ⟨stop _ Hb' H' x' ev'.sub (Nat.le_refl _), qq D Hb' H' _ (ofW (Nat.le_refl _) ev') (x1.trans x') nb' n0 hD' ⟨acc, rfl, rr⟩ no⟩
theorem pts_B (h : ifs = [] ∨ ∃ c, ifs = [c]) (s : Shared) (H : Hp) (C : Addr) (cl : List (Str × Addr)) (fp : List Addr) : PTs (X.blk s H scope (compEnvC scope cl C X.env) fp) ifs (ttB X scope ifs) := by
  rcases h with rfl | ⟨c, rfl⟩
  · exact pts_nil
  · exact pts_one ⟨fun pins s' σ H' Q I hw => hw s H C cl fp pins s' I⟩
/-- [elt for tg in iter if ..] as a value -/
theorem pl_lc {own : List (Str × Nat)} (h : LcR X ρ elt tg iter ifs scope (own.map (·.2)) ρ' ds) (nd : X.N.Nodup) (ok : blkC X.N X.env.scope scope own = true) (hc : X.calm = true := by rfl) (hs : ∀ x, foldedSetIterable iter X.env x = pure x := by intro _; rfl) :
    PL X ρ (.ListComp elt [⟨tg, iter, ifs, 0⟩] scope pos) ρ' (.lst ds) := by
  obtain ⟨wi, hi, hf, q⟩ := h
  exact fun Hb0 H0 σ Hb H ev Q qq => (pe_lc hc nd hi (blkOk_by ok) (fun s H C cl fp => ⟨fun pins s' σ H' v u Q I r hw => hw s H C cl fp pins s' u I r⟩) (pts_B hf) (fun s H C cl fp => ⟨fun pins s' σ H' Q I hw => hw s H C cl fp pins s' I⟩) hs).w (q _ _ _ _ _ ev _ qq)
/-- y = [elt for ..] on one line -/
theorem sd_asgLc {own : List (Str × Nat)} (n : Nat) {yn : Str} {py : Pos} (h : LcR X ρ elt tg iter ifs scope (own.map (·.2)) ρ1 ds) (q : ∀ l, P.nx (ρ1.set n (.own l (.lst ds)))) (nd : X.N.Nodup) (ok : blkC X.N X.env.scope scope own = true)
    (hsw : swapsWith (.ListComp elt [⟨tg, iter, ifs, 0⟩] scope pos) (some (.Name yn py)) pos'.line X.env = pure true) (hy : X.N[n]? = some yn := by rfl) (hyl : X.env.scope.names.lookup yn = some .local := by rfl) (hc : X.calm = true := by rfl)
    (hs : ∀ x, foldedSetIterable iter X.env x = pure x := by intro _; rfl) : SD X ρ (.Assign [.Name yn py] (.ListComp elt [⟨tg, iter, ifs, 0⟩] scope pos) pos') P := by
  obtain ⟨wi, hi, hf, qr⟩ := h
  exact fun Hb0 H0 σ Hb H ev => (ps_setLc hc nd hy hyl hsw hi (blkOk_by ok) (fun s H C cl fp => ⟨fun pins s' σ H' v u Q I r hw => hw s H C cl fp pins s' u I r⟩) (pts_B hf) (fun s H C cl fp => ⟨fun pins s' σ H' Q I hw => hw s H C cl fp pins s' I⟩) hs).w
    (qr _ _ _ _ _ ev _ fun l Hb' H' ho e' x' nb n0 hl r no => ⟨_, Hb', e'.seto nb n0 hl r (no.set n), q l⟩)
/-- nothing changes: each item gives its datum -/
theorem lcr_map (hs : Src X tg iter ρ ρ0 xs) (f : D → D) (js vs : List Nat) (hjs : ∀ j ∈ js, j ∈ vs) (hno : ∀ i ∈ vs, ρ0[i]? = some E.no) (hlen : xs.length < 100000)
    (turn : ∀ d, d ∈ xs → ∃ ρ1, GDb X scope tg js ρ0 d ρ1 ∧ PDb X scope ρ1 elt ρ1 (f d) ∧ dropE js ρ1 = ρ0) : LcR X ρ elt tg iter [] scope vs ρ0 (xs.map f) := by
  have h := lcr (ifs := []) (elt := elt) (scope := scope) hs (fun _ => ρ0) (fun k => (xs.take k).map f) js vs rfl rfl hjs (fun _ _ => hno) hlen (.inl rfl) fun k d hd => by
    obtain ⟨ρ1, h1, h2, h3⟩ := turn d (List.mem_of_getElem? hd)
    refine ⟨ρ1, ρ1, true, h1, .inl ⟨rfl, rfl, rfl⟩, fun _ => ⟨ρ1, f d, h2, h3, ?_⟩, fun z => by cases z⟩
    show (xs.take (k + 1)).map f = (xs.take k).map f ++ [f d]
    rw [List.take_add_one, hd, List.map_append]; rfl
  have e : xs.take xs.length = xs := List.take_length
  show LcR X ρ elt tg iter [] scope vs ρ0 (xs.map f)
  rw [e] at h
  exact h
/-- .. with a test -/
theorem lcr_filter (hs : Src X tg iter ρ ρ0 xs) (f : D → D) (t : D → Bool) (js vs : List Nat) (hjs : ∀ j ∈ js, j ∈ vs) (hno : ∀ i ∈ vs, ρ0[i]? = some E.no) (hlen : xs.length < 100000)
    (turn : ∀ d, d ∈ xs → ∃ ρ1, GDb X scope tg js ρ0 d ρ1 ∧ PTDb X scope ρ1 c ρ1 (t d) ∧ (t d = true → PDb X scope ρ1 elt ρ1 (f d)) ∧ dropE js ρ1 = ρ0) : LcR X ρ elt tg iter [c] scope vs ρ0 ((xs.filter t).map f) := by
  have h := lcr (ifs := [c]) (elt := elt) (scope := scope) hs (fun _ => ρ0) (fun k => ((xs.take k).filter t).map f) js vs rfl rfl hjs (fun _ _ => hno) hlen (.inr ⟨c, rfl⟩) fun k d hd => by
    obtain ⟨ρ1, h1, h2, h3, h4⟩ := turn d (List.mem_of_getElem? hd)
    refine ⟨ρ1, ρ1, t d, h1, .inr ⟨c, rfl, h2⟩, fun z => ⟨ρ1, f d, h3 z, h4, ?_⟩, fun z => ⟨h4, ?_⟩⟩
    · show ((xs.take (k + 1)).filter t).map f = ((xs.take k).filter t).map f ++ [f d]
      rw [List.take_add_one, hd, List.filter_append, List.map_append]
      show _ ++ (([d].filter t).map f) = _
      rw [List.filter_cons, if_pos z]; rfl
    · show ((xs.take (k + 1)).filter t).map f = ((xs.take k).filter t).map f
      rw [List.take_add_one, hd, List.filter_append, List.map_append]
      show _ ++ (([d].filter t).map f) = _
      rw [List.filter_cons, if_neg (by rw [z]; exact Bool.false_ne_true)]
      simp
  have e : xs.take xs.length = xs := List.take_length
  rw [e] at h
  exact h
end
end WL
set_option Elab.async false
set_option linter.all false
set_option maxRecDepth 100000
set_option maxHeartbeats 4000000
namespace WL
open PySem PySem.Spec PyProof.Rows L2
/-- the heap without what stands at l -/
def era (H : Hp) (l : Addr) : Hp := fun a => if a = l then none else H a
theorem era_same {H : Hp} {l : Addr} : era H l l = none := if_pos rfl
theorem era_ne {H : Hp} {l a : Addr} (h : a ≠ l) : era H l a = H a := if_neg h
theorem era_ex {H : Hp} {l : Addr} : Ex (era H l) H := fun a o h => by
  by_cases q : a = l
  · subst q; rw [era_same] at h; cases h
  · rw [era_ne q] at h; exact h
structure Grow (Hb H Hb' H' : Hp) : Prop where
  a : Ex Hb Hb'
  b : Ex H H'
  c : Ex Hb' H'
  f : ∀ x o, H x = some o → Hb' x = Hb x
/-- a def that changes nothing that stands: from data to a datum -/
def SpP (B : Bs) (R : List D → D → Prop) : Sp := fun vs H Q _ => ∃ Hb ds r, Ex Hb H ∧ Reps B Hb ds vs ∧ R ds r ∧ ∀ v Hb' H', Grow Hb H Hb' H' → Rep B Hb' r v → Q v H'
/-- a def that changes its first argument, an object of one's own -/
def SpO (B : Bs) (R : O → List D → O → D → Prop) : Sp := fun vs H Q _ => ∃ Hb l ho o ds o' r vs', vs = .ref l :: vs' ∧ H l = some ho ∧ Hb l = none ∧ Ex Hb H ∧ ORep B Hb l o ho ∧ Reps B Hb ds vs' ∧ R o ds o' r ∧
  ∀ v Hb' H' ho', Grow Hb (era H l) Hb' H' → Hb' l = none → H' l = some ho' → ORep B Hb' l o' ho' → Rep B Hb' r v → Q v H'
/-- a def of the module under its name (dvs: the defaults that fill up) -/
structure Fn (P : Program) (w : World) (K : PySem.W.Frag) (mg : Str → Option Value) (base : Heap) (x : Str) (ps : List Str) (k : Nat) (sp : Sp) (dvs : List V) : Prop where
  ex : ∃ f fd ds, mg x = some (.ref f) ∧ PySem.W.keepIn K (.ref f) = true ∧ FnOk P w K mg base CX0 k f fd ps sp ∧ Vals dvs ds ∧ Binds K fd ps ds
/-- a method of the class at C -/
structure Me (P : Program) (w : World) (K : PySem.W.Frag) (mg : Str → Option Value) (base : Heap) (C : Addr) (m : Str) (ps : List Str) (k : Nat) (sp : Sp) (dvs : List V) : Prop where
  ex : ∃ f fd ds, Cls K C ∧ Meth K C m f ∧ FnOk P w K mg base CX0 k f fd ps sp ∧ Vals dvs ds ∧ Binds K fd ps ds
/-- a class with its __init__ -/
structure Mc (P : Program) (w : World) (K : PySem.W.Frag) (mg : Str → Option Value) (base : Heap) (x : Str) (C : Addr) (ps : List Str) (k : Nat) (sp : Sp) (dvs : List V) : Prop where
  ex : ∃ f fd ds, mg x = some (.ref C) ∧ Mk K C f ∧ FnOk P w K mg base CX0 k f fd ps sp ∧ Vals dvs ds ∧ Binds K fd ps ds
section
variable {X : Cx} {ρ ρ' ρ1 ρ2 ρ3 ρ4 : List E} {e a b c : Expr} {es : List Expr} {pos p pos' ap : Pos} {d x y z r : D} {ds dd xs ys : List D} {i j k : Int} {P : Post} {R : List D → D → Prop} {RO : O → List D → O → D → Prop} {nm m : Str} {ps : List Str} {lv : Nat} {dvs : List V}
theorem EnvS.grown {B : Bs} {Hb0 H0 Hb H Hb' H' : Hp} {σ : L2.St} (ev : EnvS B Hb0 H0 ρ σ Hb H) (g : Grow Hb H Hb' H') : EnvS B Hb0 H0 ρ σ Hb' H' := ev.grow g.a g.b g.c g.f
/-- defaults that stand for data in every heap -/
def Dfl (B : Bs) (dd : List D) (dvs : List V) : Prop := ∀ H, Reps B H dd dvs
theorem dfl_nil {B : Bs} : Dfl B [] [] := fun _ => .nil
/-- f(e, ..) -/
theorem pd_call (F : Fn X.prog X.w X.K X.mg X.base nm ps lv (SpP (bs X) R) dvs) (hr : Room lv X.A) (hd : Dfl (bs X) dd dvs) (ha : PAD X ρ (e :: es) ρ1 ds) (h : R (ds ++ dd) r) (hg : Gl X nm := by rfl) (hdb : (nm == ("__debug__" : Str)) = false := by decide)
    (he : starEach (e :: es) X.env = (false, eval e X.env) :: starEach es X.env := by rfl) (hpl : (backTo pos (starEach es X.env)).any (·.1) = false := by rfl) : PD X ρ (.Call (.Name nm p) (e :: es) [] pos) ρ1 r := fun _ _ _ _ _ ev Q q => by
  obtain ⟨f, fd, us, hm, hk, F, hv, hb⟩ := F.ex
  refine (pe_call F hr hg hm hk hb hv pass0 pa_w hdb he hpl).w (ha _ _ _ _ _ ev _ fun vs Hb1 H1 e1 x1 r1 => ?_)
  exact ⟨Hb1, ds ++ dd, r, e1.sub, r1.append (hd Hb1), h, fun v Hb2 H2 g rr => q v Hb2 H2 (e1.grown g) (x1.trans g.a) rr⟩
theorem Reps.noName {B : Bs} {H : Hp} {ns : List Str} {ds : List D} {vs : List V} (r : Reps B H ds vs) {m : Str} (h : (ns.zip ds).lookup m = none) : (ns.zip vs).lookup m = none := lookup_none r.length h
/-- o.m(e, ..) -/
theorem pd_meth {pl : Sem Bool} {C : Addr} {ns : List Str} {fs : List D} (F : Me X.prog X.w X.K X.mg X.base C m ps lv (SpP (bs X) R) dvs) (hr : Room lv X.A) (hd : Dfl (bs X) dd dvs) (ho : PD X ρ a ρ1 (.ins C ns fs)) (ha : PAD X ρ1 (e :: es) ρ2 ds) (hl : (ns.zip fs).lookup m = none) (h : R (.ins C ns fs :: (ds ++ dd)) r)
    (hst : starEach (e :: es) X.env = (false, eval e X.env) :: starEach es X.env := by rfl) (hpl : (backTo pos (starEach es X.env)).any (·.1) = false := by rfl)
    (ht : eval (.Call (.Attribute a m ap) (e :: es) [] pos) X.env = (do
      let ov ← eval a X.env
      standAt ap.atName
      let (f, first) ← holding [ov] (getMethod ov m pl)
      callWith pos f first (backTo pos (starEach (e :: es) X.env)) (backToKw pos (keywordEach [] X.env))) := by rfl) : PD X ρ (.Call (.Attribute a m ap) (e :: es) [] pos) ρ2 r := fun _ _ _ _ _ ev Q q => by
  obtain ⟨f, fd, us, cl, hm, F, hv, hb⟩ := F.ex
  refine (pe_meth pe_w cl hm F hr hb hv pass0 pa_w hst hpl ht).w (ho _ _ _ _ _ ev _ fun v Hb1 H1 e1 x1 r1 => ?_)
  obtain ⟨o, dx, vs, rfl, h1, _, rr⟩ := id r1.ins
  refine ⟨o, dx, _, rfl, e1.sub _ _ h1, rr.noName hl, ha _ _ _ _ _ e1 _ fun ws Hb2 H2 e2 x2 r2 => ?_⟩
  exact ⟨Hb2, _, r, e2.sub, .cons (Rep.mono x2 _ _ r1) (r2.append (hd Hb2)), h, fun v Hb3 H3 g r3 => q v Hb3 H3 (e2.grown g) ((x1.trans x2).trans g.a) r3⟩
theorem pd_meth0 {pl : Sem Bool} {C : Addr} {ns : List Str} {fs : List D} (F : Me X.prog X.w X.K X.mg X.base C m ps lv (SpP (bs X) R) dvs) (hr : Room lv X.A) (hd : Dfl (bs X) dd dvs) (ho : PD X ρ a ρ1 (.ins C ns fs)) (hl : (ns.zip fs).lookup m = none) (h : R (.ins C ns fs :: dd) r)
    (ht : eval (.Call (.Attribute a m ap) [] [] pos) X.env = (do
      let ov ← eval a X.env
      standAt ap.atName
      let (f, first) ← holding [ov] (getMethod ov m pl)
      callWith pos f first (backTo pos (starEach [] X.env)) (backToKw pos (keywordEach [] X.env))) := by rfl) : PD X ρ (.Call (.Attribute a m ap) [] [] pos) ρ1 r := fun _ _ _ _ _ ev Q q => by
  obtain ⟨f, fd, us, cl, hm, F, hv, hb⟩ := F.ex
  refine (pe_meth0 pe_w cl hm F hr hb hv pass0 ht).w (ho _ _ _ _ _ ev _ fun v Hb1 H1 e1 x1 r1 => ?_)
  obtain ⟨o, dx, vs, rfl, h1, _, rr⟩ := id r1.ins
  refine ⟨o, dx, _, rfl, e1.sub _ _ h1, rr.noName hl, ?_⟩
  exact ⟨Hb1, _, r, e1.sub, .cons r1 (hd Hb1), h, fun v Hb3 H3 g r3 => q v Hb3 H3 (e1.grown g) (x1.trans g.a) r3⟩
/-- len of an instance, in of an instance: by its own method -/
theorem cr_lenC {C f : Addr} {fd : FuncData} {sp : Sp} (hm : Meth X.K C "__len__" f) (F : FnOk X.prog X.w X.K X.mg X.base CX0 lv f fd ps sp) (hb : Binds X.K fd ps []) (hr : Room (lv + 1) X.A) :
    CallR X (.builtin "len") (fun xs H Q => ∃ o dx fs, xs = [.ref o] ∧ H o = some (.ins C dx fs) ∧ sp [.ref o] H (fun v H' => ∃ i : Int, v = .int i ∧ (0 ≤ i ∧ i < 2 ^ 63) ∧ Q (.int i) H') E0) := by
  intro pins s σ H xs us Q I r h
  obtain ⟨o, dx, fs, rfl, ho, hsp⟩ := h
  obtain ⟨u, rfl, ru⟩ := vals1 r
  cases ru
  obtain ⟨mA, J, _⟩ := ins_get I.hok ho
  obtain ⟨od, J, _⟩ := J.look
  obtain ⟨m, hF⟩ := I.fr
  refine PySem.W.len_K hF I.ok.mod.kin J hm.at_ hm.fn ?_
  have hl := F.len _ _ _ _ hsp
  have r2 : Vals [V.ref o] [Value.ref o] := .cons rfl .nil
  have e0 : Env0 X.prog X.w X.K X.mg X.base X.A.in1 X.stack s H := I.env0.in1
  refine wpAny_call (codeAny_mono (F.run X.A.in1 X.stack s H ⟨[.ref o], []⟩ [.ref o] [.ref o] _ E0 hr.in1 e0 (by
    have := hb s [.ref o] I.kIn (by simpa using hl)
    simpa using this) r2 hsp) fun r s' hq => ?_)
  cases r with
  | error e => exact hq.elim
  | ok fl =>
    cases fl with
    | ret w =>
      obtain ⟨z, H', I', rz, i, ez, hi, q⟩ := I.after hq
      subst ez
      obtain ⟨t, rfl⟩ := rz
      exact ⟨hi, .int i, H', I'.tok _, ⟨_, rfl⟩, q⟩
    | next => exact False.elim hq
    | brk => exact False.elim hq
    | cont => exact False.elim hq
theorem op_inC {C f : Addr} {fd : FuncData} {sp : Sp} (hm : Meth X.K C "__contains__" f) (F : FnOk X.prog X.w X.K X.mg X.base CX0 lv f fd ps sp) (hb : Binds X.K fd ps []) (hr : Room lv X.A) :
    OpR X (compareOp .In) (fun x y H Q => ∃ o dx fs, y = .ref o ∧ H o = some (.ins C dx fs) ∧ sp [.ref o, x] H (fun v H' => ∃ b : Bool, v = .bl b ∧ Q (.bl b) H') E0) := by
  intro pins s σ H x y v u Q I rx ry h
  obtain ⟨o, dx, fs, rfl, ho, hsp⟩ := h
  cases ry
  obtain ⟨mA, J, _⟩ := ins_get I.hok ho
  obtain ⟨od, J, _⟩ := J.look
  obtain ⟨m, hF⟩ := I.fr
  refine PySem.W.in_K hF I.ok.mod.kin J hm.at_ hm.fn ?_
  refine thn (run_fn (ds := []) (dvs := []) (us := [.ref o, v]) (vs := [.ref o, x]) F hr hb .nil pass0 I (.cons rfl (.cons rx .nil)) hsp) fun w s1 ⟨z, H1, I1, rz, b, ez, q⟩ => ?_
  subst ez
  cases rz
  exact wpAny_truthy_bool ⟨.bl b, H1, I1, rfl, q⟩
theorem op_notInC {C f : Addr} {fd : FuncData} {sp : Sp} (hm : Meth X.K C "__contains__" f) (F : FnOk X.prog X.w X.K X.mg X.base CX0 lv f fd ps sp) (hb : Binds X.K fd ps []) (hr : Room lv X.A) :
    OpR X (compareOp .NotIn) (fun x y H Q => ∃ o dx fs, y = .ref o ∧ H o = some (.ins C dx fs) ∧ sp [.ref o, x] H (fun v H' => ∃ b : Bool, v = .bl b ∧ Q (.bl (!b)) H') E0) := by
  intro pins s σ H x y v u Q I rx ry h
  obtain ⟨o, dx, fs, rfl, ho, hsp⟩ := h
  cases ry
  obtain ⟨mA, J, _⟩ := ins_get I.hok ho
  obtain ⟨od, J, _⟩ := J.look
  obtain ⟨m, hF⟩ := I.fr
  refine PySem.W.notIn_K hF I.ok.mod.kin J hm.at_ hm.fn ?_
  refine thn (run_fn (ds := []) (dvs := []) (us := [.ref o, v]) (vs := [.ref o, x]) F hr hb .nil pass0 I (.cons rfl (.cons rx .nil)) hsp) fun w s1 ⟨z, H1, I1, rz, b, ez, q⟩ => ?_
  subst ez
  cases rz
  exact wpAny_truthy_bool ⟨.bl (!b), H1, I1, rfl, q⟩
theorem pd_lenC {C : Addr} {ns : List Str} {fs : List D} (F : Me X.prog X.w X.K X.mg X.base C "__len__" ps lv (SpP (bs X) R) []) (ml : X.mg "len" = none) (hr : Room (lv + 1) X.A) (ho : PD X ρ a ρ1 (.ins C ns fs)) (h : R [.ins C ns fs] (.int i)) (hi : 0 ≤ i ∧ i < 2 ^ 63)
    (hg : Gl X "len" := by rfl) (na : starEach [a] X.env = (false, eval a X.env) :: starEach [] X.env := by rfl) : PD X ρ (.Call (.Name "len" p) [a] [] pos) ρ1 (.int i) := by
  obtain ⟨f, fd, us, cl, hm, F, hv, hb⟩ := F.ex
  cases hv
  refine pd_cB (cr_lenC hm F hb hr) ml boot_len (pad_cons ho pad_nil na) (fun _ _ _ Hb H ev vs rs Q q => ?_) hg (by decide) (by decide) na
  obtain ⟨v, rfl, r1⟩ := rs.one
  obtain ⟨o, dx, ws, rfl, h1, _, rr⟩ := id r1.ins
  exact ⟨o, dx, _, rfl, ev.sub _ _ h1, Hb, _, _, ev.sub, .cons r1 .nil, h, fun v Hb' H' g r => ⟨i, r.int, hi, q _ Hb' H' (ev.grown g) g.a rep_int⟩⟩
theorem pd_inC {C : Addr} {ns : List Str} {fs : List D} {v : Bool} (F : Me X.prog X.w X.K X.mg X.base C "__contains__" ps lv (SpP (bs X) R) []) (hr : Room lv X.A) (ha : PD X ρ a ρ1 x) (ho : PD X ρ1 b ρ2 (.ins C ns fs)) (h : R [.ins C ns fs, x] (.bl v))
    (hm : behindInMarks .In b = false := by with_unfolding_all rfl) : PD X ρ (.Compare a [.In] [b] pos) ρ2 (.bl v) := fun _ _ _ _ _ ev Q q => by
  obtain ⟨f, fd, us, cl, hme, F, hv, hb⟩ := F.ex
  cases hv
  refine (pe_cmpR (op_inC hme F hb hr) pe_w pe_w hm).w (ha _ _ _ _ _ ev _ fun w Hb1 H1 e1 x1 r1 => ho _ _ _ _ _ e1 _ fun y Hb2 H2 e2 x2 r2 => ?_)
  obtain ⟨o, dx, ws, rfl, h1, _, rr⟩ := id r2.ins
  exact ⟨o, dx, _, rfl, e2.sub _ _ h1, Hb2, _, _, e2.sub, .cons r2 (.cons (Rep.mono x2 _ _ r1) .nil), h, fun v' Hb' H' g r => ⟨v, r.bl, q _ Hb' H' (e2.grown g) ((x1.trans x2).trans g.a) rep_bl⟩⟩
theorem pd_notInC {C : Addr} {ns : List Str} {fs : List D} {v : Bool} (F : Me X.prog X.w X.K X.mg X.base C "__contains__" ps lv (SpP (bs X) R) []) (hr : Room lv X.A) (ha : PD X ρ a ρ1 x) (ho : PD X ρ1 b ρ2 (.ins C ns fs)) (h : R [.ins C ns fs, x] (.bl v))
    (hm : behindInMarks .NotIn b = false := by with_unfolding_all rfl) : PD X ρ (.Compare a [.NotIn] [b] pos) ρ2 (.bl (!v)) := fun _ _ _ _ _ ev Q q => by
  obtain ⟨f, fd, us, cl, hme, F, hv, hb⟩ := F.ex
  cases hv
  refine (pe_cmpR (op_notInC hme F hb hr) pe_w pe_w hm).w (ha _ _ _ _ _ ev _ fun w Hb1 H1 e1 x1 r1 => ho _ _ _ _ _ e1 _ fun y Hb2 H2 e2 x2 r2 => ?_)
  obtain ⟨o, dx, ws, rfl, h1, _, rr⟩ := id r2.ins
  exact ⟨o, dx, _, rfl, e2.sub _ _ h1, Hb2, _, _, e2.sub, .cons r2 (.cons (Rep.mono x2 _ _ r1) .nil), h, fun v' Hb' H' g r => ⟨v, r.bl, q _ Hb' H' (e2.grown g) ((x1.trans x2).trans g.a) rep_bl⟩⟩
theorem pt_inC {C : Addr} {ns : List Str} {fs : List D} {v : Bool} (F : Me X.prog X.w X.K X.mg X.base C "__contains__" ps lv (SpP (bs X) R) []) (hr : Room lv X.A) (ha : PD X ρ a ρ1 x) (ho : PD X ρ1 b ρ2 (.ins C ns fs)) (h : R [.ins C ns fs, x] (.bl v))
    (hm : behindInMarks .In b = false := by with_unfolding_all rfl) : PTD X ρ (.Compare a [.In] [b] pos) ρ2 v := fun _ _ _ _ _ ev Q q => by
  obtain ⟨f, fd, us, cl, hme, F, hv, hb⟩ := F.ex
  cases hv
  refine (pt_cmpR (op_inC hme F hb hr) pe_w pe_w hm).w (ha _ _ _ _ _ ev _ fun w Hb1 H1 e1 x1 r1 => ho _ _ _ _ _ e1 _ fun y Hb2 H2 e2 x2 r2 => ?_)
  obtain ⟨o, dx, ws, rfl, h1, _, rr⟩ := id r2.ins
  exact ⟨o, dx, _, rfl, e2.sub _ _ h1, Hb2, _, _, e2.sub, .cons r2 (.cons (Rep.mono x2 _ _ r1) .nil), h, fun v' Hb' H' g r => ⟨v, r.bl, _, rfl, q Hb' H' (e2.grown g) ((x1.trans x2).trans g.a)⟩⟩
theorem pt_notInC {C : Addr} {ns : List Str} {fs : List D} {v : Bool} (F : Me X.prog X.w X.K X.mg X.base C "__contains__" ps lv (SpP (bs X) R) []) (hr : Room lv X.A) (ha : PD X ρ a ρ1 x) (ho : PD X ρ1 b ρ2 (.ins C ns fs)) (h : R [.ins C ns fs, x] (.bl v))
    (hm : behindInMarks .NotIn b = false := by with_unfolding_all rfl) : PTD X ρ (.Compare a [.NotIn] [b] pos) ρ2 (!v) := fun _ _ _ _ _ ev Q q => by
  obtain ⟨f, fd, us, cl, hme, F, hv, hb⟩ := F.ex
  cases hv
  refine (pt_cmpR (op_notInC hme F hb hr) pe_w pe_w hm).w (ha _ _ _ _ _ ev _ fun w Hb1 H1 e1 x1 r1 => ho _ _ _ _ _ e1 _ fun y Hb2 H2 e2 x2 r2 => ?_)
  obtain ⟨o, dx, ws, rfl, h1, _, rr⟩ := id r2.ins
  exact ⟨o, dx, _, rfl, e2.sub _ _ h1, Hb2, _, _, e2.sub, .cons r2 (.cons (Rep.mono x2 _ _ r1) .nil), h, fun v' Hb' H' g r => ⟨v, r.bl, _, rfl, q Hb' H' (e2.grown g) ((x1.trans x2).trans g.a)⟩⟩
/-- C(e, ..) -/
theorem pd_make {C : Addr} {ns : List Str} {fs : List D} (F : Mc X.prog X.w X.K X.mg X.base nm C ps lv (SpO (bs X) RO) dvs) (hr : Room (lv + 1) X.A) (hd : Dfl (bs X) dd dvs) (ha : PAD X ρ (e :: es) ρ1 ds) (h : ∀ dx, RO (.ins C dx [] []) (ds ++ dd) (.ins C dx ns fs) .non) (hg : Gl X nm := by rfl) (hdb : (nm == ("__debug__" : Str)) = false := by decide)
    (he : starEach (e :: es) X.env = (false, eval e X.env) :: starEach es X.env := by rfl) (hpl : (backTo pos (starEach es X.env)).any (·.1) = false := by rfl) : PD X ρ (.Call (.Name nm p) (e :: es) [] pos) ρ1 (.ins C ns fs) := fun _ _ _ _ _ ev Q q => by
  obtain ⟨f, fd, us, hm, hmk, F, hv, hb⟩ := F.ex
  refine (pe_make hmk F hr hg hm hb hv pass0 pa_w hdb he hpl).w (ha _ _ _ _ _ ev _ fun vs Hb1 H1 e1 x1 r1 => ?_)
  intro o dx ho hdx hne
  have s1 : Ex H1 (upd H1 dx (.own o)) := Ex.new hdx
  have ho2 : (upd H1 dx (.own o)) o = none := by rw [upd_ne (Ne.symm hne)]; exact ho
  have s2 : Ex (upd H1 dx (.own o)) (upd (upd H1 dx (.own o)) o (.ins C dx [])) := Ex.new ho2
  have e2 := (e1.newO hdx (o := .own o)).newO ho2 (o := .ins C dx [])
  refine ⟨Hb1, o, .ins C dx [], .ins C dx [] [], ds ++ dd, .ins C dx ns fs, .non, vs ++ dvs, rfl, upd_same, e1.sub.free ho, e2.sub, ⟨[], rfl, rfl, .nil⟩, r1.append (hd Hb1), h dx, fun v Hb2 H2 ho' g nb hh r rv => ?_⟩
  refine ⟨rv.non, ?_⟩
  obtain ⟨ws, rfl, hl, rr⟩ := id r
  have sera : Ex (upd H1 dx (.own o)) (era (upd (upd H1 dx (.own o)) o (.ins C dx [])) o) := fun a u ha => by
    have : a ≠ o := ne_of_none ha ho2
    rw [era_ne this, upd_ne this]; exact ha
  have e3 : EnvS (bs X) _ _ ρ1 _ Hb2 H2 := e1.grow g.a (s1.trans (sera.trans g.b)) g.c fun a u ha => g.f a u (sera _ _ (s1 _ _ ha))
  have no : NotOwn ρ1 o := e1.notOwn ho
  have e4 := e3.known nb (e1.ex1.free ho) hh no
  exact q _ _ H2 e4 ((x1.trans g.a).trans (Ex.new nb)) (r.rep nb)
/-- f(x, ..), x an object of one's own that the def changes -/
theorem pd_callO (n : Nat) {l : Addr} {o o' o0 : O} {x : Str} {pn : Pos} (F : Fn X.prog X.w X.K X.mg X.base nm ps lv (SpO (bs X) RO) dvs) (hr : Room lv X.A) (hd : Dfl (bs X) dd dvs) (h0 : ρ[n]? = some (.own l o0)) (ha : PAD X ρ es ρ1 ds) (h1 : ρ1[n]? = some (.own l o)) (h : RO o (ds ++ dd) o' r) (hg : Gl X nm := by rfl) (hdb : (nm == ("__debug__" : Str)) = false := by decide)
    (hN : X.N[n]? = some x := by rfl) (hv : Vis X.env.scope x := by first | exact Or.inl rfl | exact Or.inr (Or.inl rfl) | exact Or.inr (Or.inr rfl)) (hd1 : (x == ("__debug__" : Str)) = false := by decide) (hd2 : (x == ("__classdict__" : Str)) = false := by decide)
    (he : starEach (.Name x pn :: es) X.env = (false, eval (.Name x pn) X.env) :: starEach es X.env := by rfl) (hpl : (backTo pos (starEach es X.env)).any (·.1) = false := by rfl) : PD X ρ (.Call (.Name nm p) (.Name x pn :: es) [] pos) (ρ1.set n (.own l o')) r := fun Hb0 H0 σ Hb H ev Q q => by
  obtain ⟨f, fd, us, hm, hk, F, hvs, hb⟩ := F.ex
  refine (pe_call F hr hg hm hk hb hvs pass0 (pa_cons (pe_var hN hv hd1 hd2) pa_w he) hdb he hpl).w ?_
  refine ⟨.ref l, (ev.own n l o0 h0).1, ha _ _ _ _ _ ev _ fun vs Hb1 H1 e1 x1 r1 => ?_⟩
  obtain ⟨g1, g2, g3, ho, g4, g5⟩ := e1.own n l o h1
  refine ⟨Hb1, l, ho, o, ds ++ dd, o', r, vs ++ dvs, rfl, g4, g2, e1.sub, g5, r1.append (hd Hb1), h, fun v Hb2 H2 ho' g nb hh rr rv => ?_⟩
  refine q v Hb2 H2 ?_ (x1.trans g.a) rv
  have hn : n < ρ1.length := (List.getElem?_eq_some_iff.mp h1).1
  -- the other objects stay
  have oth : ∀ a u, H1 a = some u → a ≠ l → H2 a = some u ∧ Hb2 a = Hb1 a := fun a u ha hne => ⟨g.b a u (by rw [era_ne hne]; exact ha), g.f a u (by rw [era_ne hne]; exact ha)⟩
  refine ⟨by rw [List.length_set]; exact e1.len, e1.ex0.trans g.a, fun a u ha => ?_, g.c, fun a u ha => ?_, fun i y hy => ?_, fun i l' o2 hy => ?_, fun i j l' o2 o3 hi hj => ?_⟩
  · exact (oth a u (e1.ex1 a u ha) (ne_of_none ha g3)).1
  · exact (oth a u (e1.ex1 a u ha) (ne_of_none ha g3)).2.trans (e1.fr a u ha)
  · rw [get_set] at hy
    split at hy
    · cases hy
    · obtain ⟨v', k1, k2⟩ := e1.dat i y hy
      exact ⟨v', k1, Rep.mono g.a _ _ k2⟩
  · rw [get_set] at hy
    split at hy
    · rename_i z
      cases hy
      exact ⟨by rw [← z.1]; exact g1, nb, g3, ho', hh, rr⟩
    · rename_i z
      obtain ⟨k1, k2, k3, u, k4, k5⟩ := e1.own i l' o2 hy
      have hne : l' ≠ l := fun w => z (by
        subst w
        have := e1.ap n i l' o o2 h1 hy
        exact ⟨this, this ▸ hn⟩)
      obtain ⟨m1, m2⟩ := oth l' u k4 hne
      exact ⟨k1, by rw [m2]; exact k2, k3, u, m1, k5.mono g.a⟩
  · rw [get_set] at hi hj
    split at hi
    · rename_i z
      cases hi
      split at hj
      · rename_i z'; exact z.1.symm.trans z'.1
      · exact z.1.symm.trans (e1.ap n j l o o3 h1 hj)
    · split at hj
      · rename_i z'
        cases hj
        exact (e1.ap i n l o2 o hi h1).trans z'.1
      · exact e1.ap i j l' o2 o3 hi hj
end
/-! ### a def keeps its promise -/
section
variable {P : Program} {w : World} {K : PySem.W.Frag} {mg : Str → Option Value} {base : Heap} {x qual : Str} {st : Stmt} {dvs : List V} {f : Addr} {fd : FuncData} {N ps : List Str} {k : Nat}
/-- the data of the slots at the entry -/
def startE (n : Nat) (ds : List D) : List E := ds.map .d ++ List.replicate (n - ds.length) .no
theorem start_get {N : List Str} {vs : List V} {i : Nat} {v : V} (h : vs[i]? = some v) : (start N vs)[i]? = some (some v) := by
  have hi := (List.getElem?_eq_some_iff.mp h).1
  unfold L2.start
  rw [List.getElem?_append_left (by rw [List.length_map]; exact hi), List.getElem?_map, h]; rfl
theorem startE_d {n : Nat} {ds : List D} {i : Nat} {e : E} (h : (startE n ds)[i]? = some e) : (∃ d, ds[i]? = some d ∧ e = .d d) ∨ e = .no := by
  unfold startE at h
  by_cases hi : i < ds.length
  · rw [List.getElem?_append_left (by rw [List.length_map]; exact hi), List.getElem?_map] at h
    obtain ⟨d, hd, rfl⟩ := Option.map_eq_some_iff.mp h
    exact .inl ⟨d, hd, rfl⟩
  · rw [List.getElem?_append_right (by rw [List.length_map]; omega), List.getElem?_replicate] at h
    split at h
    · cases h; exact .inr rfl
    · cases h
theorem envS_start {B : Bs} {Hb H : Hp} {ds : List D} {vs : List V} {N : List Str} (hx : Ex Hb H) (r : Reps B Hb ds vs) (hl : ds.length ≤ N.length) : EnvS B Hb H (startE N.length ds) (start N vs) Hb H where
  len := by
    have := r.length
    unfold L2.start startE
    simp
    omega
  ex0 := Ex.refl _
  ex1 := Ex.refl _
  sub := hx
  fr := fun _ _ _ => rfl
  dat := fun i y h => by
    rcases startE_d h with ⟨d, hd, e⟩ | e
    · cases e
      obtain ⟨v, hv, rv⟩ := r.get hd
      exact ⟨v, start_get hv, rv⟩
    · cases e
  own := fun i l o h => by
    rcases startE_d h with ⟨d, hd, e⟩ | e
    · cases e
    · cases e
  ap := fun i j l o o' h _ => by
    rcases startE_d h with ⟨d, hd, e⟩ | e
    · cases e
    · cases e
theorem fn_pure {kws : List (Str × V)} {R : List D → D → Prop} (F : FunD K x qual (defArgs st) (defBody st) (defScope st) dvs kws f fd) (S : FnScope N ps (defScope st)) (hlen : ∀ ds r, R ds r → ds.length = ps.length) (hN : ps.length ≤ N.length)
    (body : ∀ (cdv : Value) (A : Around) (outer : List Env) (s : Shared) (H : Hp) (ds : List D) (r : D), Room k (A.deeper (envOfC qual (defScope st) s.heap.objs.size f cdv)) → R ds r →
      SDs (cxOf CX0 P w K mg base N qual (defScope st) f cdv A outer s H E0).nox (startE N.length ds) (defBody st) { nx := fun _ => r = .non, rt := fun _ d => d = r }) : FnOk P w K mg base CX0 (k + 1) f fd ps (SpP ⟨P, w, K⟩ R) := by
  refine F.ok S (fun vs H Q E h => ?_) fun cdv A outer s H vs Q E hr h => ?_
  · obtain ⟨Hb, ds, r, _, rr, hR, _⟩ := h
    rw [← rr.length, hlen ds r hR]
  · obtain ⟨Hb, ds, r, hx, rr, hR, q⟩ := h
    have hE : (cxOf CX0 P w K mg base N qual (defScope st) f cdv A outer s H E).nox = (cxOf CX0 P w K mg base N qual (defScope st) f cdv A outer s H E0).nox := rfl
    refine ⟨_, PSs.nox (pss_w (sts := defBody st)), ?_⟩
    rw [hE]
    refine WSs.mono (body cdv A outer s H ds r hr hR Hb H _ Hb H (envS_start hx rr (by rw [hlen ds r hR]; exact hN))) (fun σ' H' h => ?_) (fun v H' h => ?_) (fun σ' H' h => ?_) (fun σ' H' h => ?_)
    · obtain ⟨ρ, Hb', ev, e⟩ := h
      subst e
      exact q .non Hb' H' ⟨ev.ex0, ev.ex1, ev.sub, ev.fr⟩ rep_non
    · obtain ⟨ρ, σ', Hb', d, ev, rv, e⟩ := h
      subst e
      exact q v Hb' H' ⟨ev.ex0, ev.ex1, ev.sub, ev.fr⟩ rv
    · obtain ⟨ρ, Hb', ev, e⟩ := h
      exact e.elim
    · obtain ⟨ρ, Hb', ev, e⟩ := h
      exact e.elim
/-- .. whose first argument is an object that it changes -/
theorem fn_own {kws : List (Str × V)} {RO : O → List D → O → D → Prop} (F : FunD K x qual (defArgs st) (defBody st) (defScope st) dvs kws f fd) (S : FnScope N ps (defScope st)) (hlen : ∀ o ds o' r, RO o ds o' r → ds.length + 1 = ps.length) (hN : ps.length ≤ N.length)
    (body : ∀ (cdv : Value) (A : Around) (outer : List Env) (s : Shared) (H : Hp) (l : Addr) (o : O) (ds : List D) (o' : O) (r : D), Room k (A.deeper (envOfC qual (defScope st) s.heap.objs.size f cdv)) → RO o ds o' r →
      SDs (cxOf CX0 P w K mg base N qual (defScope st) f cdv A outer s H E0).nox ((startE N.length (.non :: ds)).set 0 (.own l o)) (defBody st) { nx := fun ρ => r = .non ∧ ρ[0]? = some (.own l o'), rt := fun ρ d => d = r ∧ ρ[0]? = some (.own l o') }) : FnOk P w K mg base CX0 (k + 1) f fd ps (SpO ⟨P, w, K⟩ RO) := by
  refine F.ok S (fun vs H Q E h => ?_) fun cdv A outer s H vs Q E hr h => ?_
  · obtain ⟨Hb, l, ho, o, ds, o', r, vs', rfl, _, _, _, _, rr, hR, _⟩ := h
    rw [List.length_cons, ← rr.length, hlen o ds o' r hR]
  · obtain ⟨Hb, l, ho, o, ds, o', r, vs', rfl, hl, nb, hx, ro, rr, hR, q⟩ := h
    have hE : (cxOf CX0 P w K mg base N qual (defScope st) f cdv A outer s H E).nox = (cxOf CX0 P w K mg base N qual (defScope st) f cdv A outer s H E0).nox := rfl
    refine ⟨_, PSs.nox (pss_w (sts := defBody st)), ?_⟩
    rw [hE]
    have hx' : Ex Hb (era H l) := fun a u h => by
      rw [era_ne (ne_of_none h nb)]; exact hx a u h
    have hn1 := hlen o ds o' r hR
    -- the start with the first slot of no interest
    have e0 : EnvS ⟨P, w, K⟩ Hb (era H l) (startE N.length (.non :: ds)) (start N (.non :: vs')) Hb (era H l) := envS_start hx' (.cons rep_non rr) (by rw [List.length_cons]; omega)
    have e1 := e0.setn 0 (some (.ref l))
    have hs : (start N (V.non :: vs')).set 0 (some (.ref l)) = start N (.ref l :: vs') := by
      unfold L2.start
      simp
    rw [hs] at e1
    -- the object comes in
    have e2 : EnvS ⟨P, w, K⟩ Hb (era H l) ((startE N.length (.non :: ds)).set 0 .no) (start N (.ref l :: vs')) Hb H :=
      ⟨e1.len, e1.ex0, era_ex, hx, e1.fr, e1.dat, (fun i l2 o2 h => by
        exfalso
        rw [get_set] at h
        split at h
        · cases h
        · rcases startE_d h with ⟨d, hd, e⟩ | e
          · cases e
          · cases e), e1.ap⟩
    have no2 : NotOwn ((startE N.length (.non :: ds)).set 0 .no) l := fun i o2 h => by
      rw [get_set] at h
      split at h
      · cases h
      · rcases startE_d h with ⟨d, hd, e⟩ | e
        · cases e
        · cases e
    have e3 := e2.seto (i := 0) nb era_same hl ro (by rw [set_set_same]; exact no2)
    rw [set_set_same] at e3
    have hs2 : (start N (V.ref l :: vs')).set 0 (some (.ref l)) = start N (.ref l :: vs') := by
      unfold L2.start
      simp
    rw [hs2] at e3
    refine WSs.mono (body cdv A outer s H l o ds o' r hr hR Hb (era H l) _ Hb H e3) (fun σ' H' h => ?_) (fun v H' h => ?_) (fun σ' H' h => ?_) (fun σ' H' h => ?_)
    · obtain ⟨ρ, Hb', ev, e, h1⟩ := h
      subst e
      obtain ⟨_, g2, _, ho', g4, g5⟩ := ev.own 0 l o' h1
      exact q .non Hb' H' ho' ⟨ev.ex0, ev.ex1, ev.sub, ev.fr⟩ g2 g4 g5 rep_non
    · obtain ⟨ρ, σ', Hb', d, ev, rv, e, h1⟩ := h
      subst e
      obtain ⟨_, g2, _, ho', g4, g5⟩ := ev.own 0 l o' h1
      exact q v Hb' H' ho' ⟨ev.ex0, ev.ex1, ev.sub, ev.fr⟩ g2 g4 g5 rv
    · obtain ⟨ρ, Hb', ev, e⟩ := h
      exact e.elim
    · obtain ⟨ρ, Hb', ev, e⟩ := h
      exact e.elim
end
end WL
set_option Elab.async false
set_option maxHeartbeats 4000000
namespace WL
/-- the numerator below 2^n, the denominator below 2^m -/
def Sz (n m : Nat) (q : Rat) : Prop := q.num.natAbs < 2 ^ n ∧ q.den < 2 ^ m
/-- small enough for each operation -/
abbrev Sm (q : Rat) : Prop := Sz 400000 4400 q
theorem Sz.mono {n m n' m' : Nat} {q : Rat} (h : Sz n m q) (a : n ≤ n') (b : m ≤ m') : Sz n' m' q :=
  ⟨Nat.lt_of_lt_of_le h.1 (Nat.pow_le_pow_right (by decide) a), Nat.lt_of_lt_of_le h.2 (Nat.pow_le_pow_right (by decide) b)⟩
theorem div_le_natAbs (a : Int) (g : Nat) (h : (g : Int) ∣ a) : (a / (g : Int)).natAbs ≤ a.natAbs := by
  rw [Int.natAbs_ediv_of_dvd h]
  exact Nat.div_le_self _ _
theorem sz_mkRat {n : Int} {d p q : Nat} (h : n.natAbs < 2 ^ p) (k : d < 2 ^ q) (d0 : d ≠ 0) : Sz p q (mkRat n d) := by
  constructor
  · rw [Rat.num_mkRat, if_neg d0]
    refine Nat.lt_of_le_of_lt (div_le_natAbs _ _ ?_) h
    exact Int.ofNat_dvd_left.mpr (Nat.gcd_dvd_right _ _)
  · rw [Rat.den_mkRat, if_neg d0]
    exact Nat.lt_of_le_of_lt (Nat.div_le_self _ _) k
theorem mul_lt_pow {a b n m : Nat} (h : a < 2 ^ n) (k : b < 2 ^ m) : a * b < 2 ^ (n + m) := by
  rw [Nat.pow_add]; exact Nat.mul_lt_mul'' h k
theorem pow_dbl (n : Nat) : 2 ^ n + 2 ^ n = 2 ^ (n + 1) := by rw [Nat.pow_succ]; omega
theorem sz_add {n m n' m' : Nat} {a b : Rat} (h : Sz n m a) (k : Sz n' m' b) : Sz (n + m' + (n' + m) + 1) (m + m') (a + b) := by
  rw [Rat.add_def']
  refine sz_mkRat ?_ (mul_lt_pow h.2 k.2) (Nat.mul_ne_zero a.den_nz b.den_nz)
  have h1 : (a.num * b.den).natAbs < 2 ^ (n + m') := by rw [Int.natAbs_mul, Int.natAbs_natCast]; exact mul_lt_pow h.1 k.2
  have h2 : (b.num * a.den).natAbs < 2 ^ (n' + m) := by rw [Int.natAbs_mul, Int.natAbs_natCast]; exact mul_lt_pow k.1 h.2
  have h3 := Int.natAbs_add_le (a.num * b.den) (b.num * a.den)
  have h4 : 2 ^ (n + m') ≤ 2 ^ (n + m' + (n' + m)) := Nat.pow_le_pow_right (by decide) (by omega)
  have h5 : 2 ^ (n' + m) ≤ 2 ^ (n + m' + (n' + m)) := Nat.pow_le_pow_right (by decide) (by omega)
  have h6 := pow_dbl (n + m' + (n' + m))
  omega
theorem sz_neg {n m : Nat} {a : Rat} (h : Sz n m a) : Sz n m (-a) := ⟨by rw [Rat.neg_num, Int.natAbs_neg]; exact h.1, h.2⟩
theorem sz_sub {n m n' m' : Nat} {a b : Rat} (h : Sz n m a) (k : Sz n' m' b) : Sz (n + m' + (n' + m) + 1) (m + m') (a - b) := by
  rw [Rat.sub_eq_add_neg]; exact sz_add h (sz_neg k)
theorem sz_mul {n m n' m' : Nat} {a b : Rat} (h : Sz n m a) (k : Sz n' m' b) : Sz (n + n') (m + m') (a * b) := by
  rw [Rat.mul_def']
  refine sz_mkRat ?_ (mul_lt_pow h.2 k.2) (Nat.mul_ne_zero a.den_nz b.den_nz)
  rw [Int.natAbs_mul]; exact mul_lt_pow h.1 k.1
theorem sz_inv {n m : Nat} {a : Rat} (h : Sz n m a) (a0 : a ≠ 0) : Sz m n a⁻¹ := by
  have hn : a.num ≠ 0 := fun z => a0 (Rat.num_eq_zero.mp z)
  constructor
  · rw [Rat.num_inv, Int.natAbs_mul, Int.natAbs_sign_of_ne_zero hn, Nat.one_mul]; exact h.2
  · rw [Rat.den_inv, if_neg hn]; exact h.1
theorem sz_div {n m n' m' : Nat} {a b : Rat} (h : Sz n m a) (k : Sz n' m' b) (b0 : b ≠ 0) : Sz (n + m') (m + n') (a / b) := by
  rw [Rat.div_def]; exact sz_mul h (sz_inv k b0)
theorem sz_int {i : Int} {n : Nat} (h : i.natAbs < 2 ^ n) : Sz n 1 (i : Rat) := ⟨h, by show 1 < 2 ^ 1; decide⟩
/-- the quotient of the two, as the program makes it -/
theorem part_num (t b : Int) (hb : 0 < b) : (Rat.divInt t b).num = t / (Nat.gcd t.natAbs b.natAbs : Nat) := by
  rw [Rat.num_divInt, Int.sign_eq_one_of_pos hb, Int.one_mul]
  show t / ((Int.gcd b t : Nat) : Int) = _
  rw [Int.gcd_comm]; rfl
theorem part_den (t b : Int) (hb : 0 < b) : ((Rat.divInt t b).den : Int) = b / (Nat.gcd t.natAbs b.natAbs : Nat) := by
  rw [Rat.den_divInt, if_neg (by omega), Int.natCast_ediv, Int.gcd_comm]
  show ((b.natAbs : Nat) : Int) / ((Nat.gcd t.natAbs b.natAbs : Nat) : Int) = _
  rw [show ((b.natAbs : Nat) : Int) = b by omega]
theorem divInt_add (a b : Rat) : Rat.divInt (a.num * b.den + b.num * a.den) (a.den * b.den) = a + b := by
  rw [Rat.add_def', ← Rat.divInt_ofNat]; simp
theorem divInt_sub (a b : Rat) : Rat.divInt (a.num * b.den - b.num * a.den) (a.den * b.den) = a - b := by
  rw [Rat.sub_def', ← Rat.divInt_ofNat]; simp
theorem divInt_mul (a b : Rat) : Rat.divInt (a.num * b.num) (a.den * b.den) = a * b := by
  rw [Rat.mul_def', ← Rat.divInt_ofNat]; simp
theorem divInt_div (a b : Rat) : Rat.divInt (a.num * b.den) (a.den * b.num) = a / b := by
  rw [Rat.div_def, Rat.inv_def, ← Rat.divInt_mul_divInt, Rat.num_divInt_den]
theorem lt_num (a b : Rat) : decide (a.num * b.den < b.num * a.den) = decide (a < b) := decide_eq_decide.mpr (Rat.lt_iff a b).symm
theorem divInt_one (i : Int) : Rat.divInt i 1 = (i : Rat) := by
  apply Rat.ext
  · rw [Rat.num_divInt]; simp
  · rw [Rat.den_divInt]; simp
end WL
set_option Elab.async false
set_option linter.all false
set_option maxRecDepth 100000
set_option maxHeartbeats 4000000
namespace WL
open PySem PySem.Spec PyProof.Rows L2
/-- the classes' addresses -/
abbrev cA (K : PySem.W.Frag) (x : Str) : Addr := He.ga K x
/-- the built-in names, the constants, the classes -/
structure Tx (K : PySem.W.Frag) (mg : Str → Option Value) : Prop where
  isinstance : mg "isinstance" = none
  int : mg "int" = none
  bool : mg "bool" = none
  tuple : mg "tuple" = none
  list : mg "list" = none
  abs : mg "abs" = none
  len : mg "len" = none
  zip : mg "zip" = none
  range : mg "range" = none
  all : mg "all" = none
  any : mg "any" = none
  sorted : mg "sorted" = none
  sum : mg "sum" = none
  min : mg "min" = none
  enumerate : mg "enumerate" = none
  dict : mg "dict" = none
  MOST_BASINS : ∃ t, mg "MOST_BASINS" = some (.int 24 t)
  MOST_AREA : ∃ t, mg "MOST_AREA" = some (.int 1000 t)
  MOST_ORDER : ∃ t, mg "MOST_ORDER" = some (.int 20000 t)
  MOST_DEEDS : ∃ t, mg "MOST_DEEDS" = some (.int 8 t)
  MOST_SHARES : ∃ t, mg "MOST_SHARES" = some (.int 4000 t)
  gRow : mg "Row" = some (.ref (cA K "Row"))
  gCoast : mg "Coast" = some (.ref (cA K "Coast"))
  clRow : Cls K (cA K "Row")
  clCoast : Cls K (cA K "Coast")
  clHigh : Cls K (cA K "High")
  clLow : Cls K (cA K "Low")
  clGuard : Cls K (cA K "Guard")
  clBest : Cls K (cA K "Best")
  clCycle : Cls K (cA K "Cycle")
  noRow_areas : NoAttr K (cA K "Row") "areas"
  noRow_volumes : NoAttr K (cA K "Row") "volumes"
  noRow_locks : NoAttr K (cA K "Row") "locks"
  noCoast_row : NoAttr K (cA K "Coast") "row"
  noCoast_left : NoAttr K (cA K "Coast") "left"
  noCoast_right : NoAttr K (cA K "Coast") "right"
  noHigh_number : NoAttr K (cA K "High") "number"
  noHigh_one : NoAttr K (cA K "High") "one"
  noHigh_other : NoAttr K (cA K "High") "other"
  noLow_number : NoAttr K (cA K "Low") "number"
  noLow_one : NoAttr K (cA K "Low") "one"
  noLow_other : NoAttr K (cA K "Low") "other"
  noGuard_locks : NoAttr K (cA K "Guard") "locks"
  noGuard_against : NoAttr K (cA K "Guard") "against"
  noBest_number : NoAttr K (cA K "Best") "number"
  noBest_order : NoAttr K (cA K "Best") "order"
  noCycle_volumes : NoAttr K (cA K "Cycle") "volumes"
  noCycle_flow : NoAttr K (cA K "Cycle") "flow"
  tyRow : InsTy K (cA K "Row")
  tyCoast : InsTy K (cA K "Coast")
  isRow : PySem.W.kitOne K (.ref (cA K "Row")) (.ref (cA K "Row")) = some true
  isCoast : PySem.W.kitOne K (.ref (cA K "Coast")) (.ref (cA K "Coast")) = some true
/-- a def of the module as the top has left it -/
def Dfn (K : PySem.W.Frag) (mg : Str → Option Value) (x : Str) (st : Stmt) (dvs : List V) : Prop := ∃ f fd, mg x = some (.ref f) ∧ FunD K x x (defArgs st) (defBody st) (defScope st) dvs [] f fd
/-- a method -/
def Mdf (K : PySem.W.Frag) (C : Addr) (m qual : Str) (st : Stmt) (dvs : List V) : Prop := ∃ f fd, Meth K C m f ∧ FunD K m qual (defArgs st) (defBody st) (defScope st) dvs [] f fd
/-- a class with the __init__ st (which may stand in a class above it) -/
def Cdf (K : PySem.W.Frag) (mg : Str → Option Value) (x : Str) (qual : Str) (st : Stmt) (dvs : List V) : Prop := ∃ f fd, mg x = some (.ref (cA K x)) ∧ Mk K (cA K x) f ∧ FunD K "__init__" qual (defArgs st) (defBody st) (defScope st) dvs [] f fd
section
variable {P : Program} {w : World} {K : PySem.W.Frag} {mg : Str → Option Value} {base : Heap} {x m qual : Str} {st : Stmt} {dvs : List V} {f C : Addr} {fd : FuncData} {N ps : List Str} {k : Nat} {sp : Sp}
theorem Dfn.fn (F : Dfn K mg x st []) (hb : ∀ (kV doc pm : Value) (an : Option Addr) (cdv ct : Value) (us : List Value), us.length = ps.length → bindArgs (PySem.W.fnOf x x (defArgs st) (defBody st) (defScope st) .none kV doc pm an cdv ct) ⟨us, []⟩ = pure (ps.zip us))
    (hok : ∀ f fd, FunD K x x (defArgs st) (defBody st) (defScope st) [] [] f fd → FnOk P w K mg base CX0 k f fd ps sp) : Fn P w K mg base x ps k sp [] := by
  obtain ⟨f, fd, hm, F⟩ := F
  exact ⟨f, fd, [], hm, F.kp, hok f fd F, .nil, F.bindsN hb⟩
/-- with defaults: n arguments are written, the defaults behind the first j fill up -/
theorem Dfn.fnd (F : Dfn K mg x st dvs) (n j : Nat) (hd : dvs ≠ []) (hn : n + (dvs.length - j) = ps.length)
    (h : ∀ (T : Addr) (kV doc pm : Value) (an : Option Addr) (cdv ct : Value) (us its : List Value), us.length = n → its.length = dvs.length →
      ∃ k, bindArgs (PySem.W.fnOf x x (defArgs st) (defBody st) (defScope st) (.ref T) kV doc pm an cdv ct) ⟨us, []⟩ = seqItems? (.ref T) >>= k ∧ k (some its.toArray) = pure (ps.zip (us ++ its.drop j)))
    (hok : ∀ f fd, FunD K x x (defArgs st) (defBody st) (defScope st) dvs [] f fd → FnOk P w K mg base CX0 k f fd ps sp) : Fn P w K mg base x ps k sp (dvs.drop j) := by
  obtain ⟨f, fd, hm, F⟩ := F
  obtain ⟨ds, hv, hb⟩ := F.binds1 n j hd hn h
  exact ⟨f, fd, ds, hm, F.kp, hok f fd F, hv, hb⟩
theorem Mdf.me (F : Mdf K C m qual st []) (cl : Cls K C) (hb : ∀ (kV doc pm : Value) (an : Option Addr) (cdv ct : Value) (us : List Value), us.length = ps.length → bindArgs (PySem.W.fnOf m qual (defArgs st) (defBody st) (defScope st) .none kV doc pm an cdv ct) ⟨us, []⟩ = pure (ps.zip us))
    (hok : ∀ f fd, FunD K m qual (defArgs st) (defBody st) (defScope st) [] [] f fd → FnOk P w K mg base CX0 k f fd ps sp) : Me P w K mg base C m ps k sp [] := by
  obtain ⟨f, fd, hm, F⟩ := F
  exact ⟨f, fd, [], cl, hm, hok f fd F, .nil, F.bindsN hb⟩
theorem Mdf.med (F : Mdf K C m qual st dvs) (cl : Cls K C) (n j : Nat) (hd : dvs ≠ []) (hn : n + (dvs.length - j) = ps.length)
    (h : ∀ (T : Addr) (kV doc pm : Value) (an : Option Addr) (cdv ct : Value) (us its : List Value), us.length = n → its.length = dvs.length →
      ∃ k, bindArgs (PySem.W.fnOf m qual (defArgs st) (defBody st) (defScope st) (.ref T) kV doc pm an cdv ct) ⟨us, []⟩ = seqItems? (.ref T) >>= k ∧ k (some its.toArray) = pure (ps.zip (us ++ its.drop j)))
    (hok : ∀ f fd, FunD K m qual (defArgs st) (defBody st) (defScope st) dvs [] f fd → FnOk P w K mg base CX0 k f fd ps sp) : Me P w K mg base C m ps k sp (dvs.drop j) := by
  obtain ⟨f, fd, hm, F⟩ := F
  obtain ⟨ds, hv, hb⟩ := F.binds1 n j hd hn h
  exact ⟨f, fd, ds, cl, hm, hok f fd F, hv, hb⟩
theorem Cdf.mc (F : Cdf K mg x qual st []) (hb : ∀ (kV doc pm : Value) (an : Option Addr) (cdv ct : Value) (us : List Value), us.length = ps.length → bindArgs (PySem.W.fnOf "__init__" qual (defArgs st) (defBody st) (defScope st) .none kV doc pm an cdv ct) ⟨us, []⟩ = pure (ps.zip us))
    (hok : ∀ f fd, FunD K "__init__" qual (defArgs st) (defBody st) (defScope st) [] [] f fd → FnOk P w K mg base CX0 k f fd ps sp) : Mc P w K mg base x (cA K x) ps k sp [] := by
  obtain ⟨f, fd, hg, hm, F⟩ := F
  exact ⟨f, fd, [], hg, hm, hok f fd F, .nil, F.bindsN hb⟩
theorem Cdf.mcd (F : Cdf K mg x qual st dvs) (n j : Nat) (hd : dvs ≠ []) (hn : n + (dvs.length - j) = ps.length)
    (h : ∀ (T : Addr) (kV doc pm : Value) (an : Option Addr) (cdv ct : Value) (us its : List Value), us.length = n → its.length = dvs.length →
      ∃ k, bindArgs (PySem.W.fnOf "__init__" qual (defArgs st) (defBody st) (defScope st) (.ref T) kV doc pm an cdv ct) ⟨us, []⟩ = seqItems? (.ref T) >>= k ∧ k (some its.toArray) = pure (ps.zip (us ++ its.drop j)))
    (hok : ∀ f fd, FunD K "__init__" qual (defArgs st) (defBody st) (defScope st) dvs [] f fd → FnOk P w K mg base CX0 k f fd ps sp) : Mc P w K mg base x (cA K x) ps k sp (dvs.drop j) := by
  obtain ⟨f, fd, hg, hm, F⟩ := F
  obtain ⟨ds, hv, hb⟩ := F.binds1 n j hd hn h
  exact ⟨f, fd, ds, hg, hm, hok f fd F, hv, hb⟩
end
/-- a fraction -/
def qd (q : Rat) : D := .tup [.int q.num, .int (q.den : Int)]
end WL
set_option Elab.async false
set_option linter.all false
set_option maxRecDepth 100000
set_option maxHeartbeats 4000000
namespace WL
open PySem PySem.Spec PyProof.Rows L2
/-! ### sizes for the operations -/
theorem mulW_of {i j : Int} {n m : Nat} (a : i.natAbs < 2 ^ n) (b : j.natAbs < 2 ^ m) (h : n + m ≤ 900000) : CMulW i j := by
  have a' : i.natAbs < 2 ^ (n + 1) := Nat.lt_of_lt_of_le a (Nat.pow_le_pow_right (by decide) (by omega))
  have b' : j.natAbs < 2 ^ (m + 1) := Nat.lt_of_lt_of_le b (Nat.pow_le_pow_right (by decide) (by omega))
  exact wide_mul a' b' (by omega) (by omega) (by omega)
theorem natAbs_den (q : Rat) : ((q.den : Nat) : Int).natAbs = q.den := Int.natAbs_natCast _
theorem Sz.d {n m : Nat} {q : Rat} (h : Sz n m q) : ((q.den : Nat) : Int).natAbs < 2 ^ m := by rw [natAbs_den]; exact h.2
theorem sm_nd {a b : Rat} (h : Sm a) (k : Sm b) : CMulW a.num b.den := mulW_of h.1 k.d (by decide)
theorem sm_dd {a b : Rat} (h : Sm a) (k : Sm b) : CMulW a.den b.den := mulW_of h.d k.d (by decide)
theorem sm_nn {a b : Rat} (h : Sm a) (k : Sm b) : CMulW a.num b.num := mulW_of h.1 k.1 (by decide)
theorem sm_dn {a b : Rat} (h : Sm a) (k : Sm b) : CMulW a.den b.num := mulW_of h.d k.1 (by decide)
theorem sm_ddlt {a b : Rat} (h : Sm a) (k : Sm b) : ((a.den : Int) * (b.den : Int)).natAbs < 2 ^ 9000 := by
  rw [Int.natAbs_mul]
  exact Nat.lt_of_lt_of_le (mul_lt_pow h.d k.d) (Nat.pow_le_pow_right (Nat.zero_lt_succ 1) (by omega))
theorem den_pos' (a : Rat) : (0 : Int) < (a.den : Int) := by have := a.den_pos; omega
theorem sm_ddpos (a b : Rat) : (0 : Int) < (a.den : Int) * (b.den : Int) := Int.mul_pos (den_pos' a) (den_pos' b)
section
variable {P : Program} {w : World} {K : PySem.W.Frag} {mg : Str → Option Value} {base : Heap}
/-! ### is_whole -/
theorem sc_is_whole : FnScope ["thing"] ["thing"] (defScope s_is_whole) := ⟨rfl, rfl, rfl, by decide +kernel, rfl, by decide +kernel, by decide +kernel⟩
def RIsWhole (ds : List D) (r : D) : Prop := ∃ d T b1 b2, ds = [d] ∧ tyN d = some T ∧ kitB T "int" = some b1 ∧ kitB T "bool" = some b2 ∧ r = .bl (b1 && !b2)
theorem isWhole_int {i : Int} : RIsWhole [.int i] (.bl true) := ⟨_, _, true, false, rfl, rfl, by decide +kernel, by decide +kernel, rfl⟩
theorem isWhole_tup {ds : List D} : RIsWhole [.tup ds] (.bl false) := ⟨_, _, false, false, rfl, rfl, by decide +kernel, by decide +kernel, rfl⟩
theorem fn_is_whole (T : Tx K mg) (F : Dfn K mg "is_whole" s_is_whole []) : Fn P w K mg base "is_whole" ["thing"] 1 (SpP ⟨P, w, K⟩ RIsWhole) [] := by
  refine F.fn (fun _ _ _ _ _ _ us hl => match us, hl with | [_], _ => rfl) fun f fd F => ?_
  refine fn_pure F sc_is_whole (by rintro ds r ⟨d, _, _, _, rfl, _⟩; rfl) (by decide) fun cdv A outer s H ds r hr hR => ?_
  obtain ⟨d, T', b1, b2, rfl, ht, h1, h2, rfl⟩ := hR
  exact sds_one (sd_ret (pd_and2 (pd_isT "int" T.isinstance T.int PyProof.Rows.boot_int (pd_var 0 rfl) ht h1) (fun _ => pd_not (pd_isT "bool" T.isinstance T.bool PyProof.Rows.boot_bool (pd_var 0 rfl) ht h2))) rfl)
/-! ### common -/
theorem sc_common : FnScope ["one", "other"] ["one", "other"] (defScope s_common) := ⟨rfl, rfl, rfl, by decide +kernel, rfl, by decide +kernel, by decide +kernel⟩
def RCommon (ds : List D) (r : D) : Prop := ∃ a b : Nat, ds = [.int a, .int b] ∧ r = .int (Nat.gcd a b : Nat)
theorem fn_common (T : Tx K mg) (F : Dfn K mg "common" s_common []) : Fn P w K mg base "common" ["one", "other"] 1 (SpP ⟨P, w, K⟩ RCommon) [] := by
  have sc := sc_common
  refine F.fn (fun _ _ _ _ _ _ us hl => match us, hl with | [_, _], _ => rfl) fun f fd F => ?_
  refine fn_pure F sc (by rintro ds r ⟨_, _, rfl, _⟩; rfl) (by decide) fun cdv A outer s H ds r hr hR => ?_
  obtain ⟨a, b, rfl, rfl⟩ := hR
  refine sds_cons (sd_while (fun ρ => ∃ x y : Nat, ρ = [.d (.int x), .d (.int y)] ∧ Nat.gcd x y = Nat.gcd a b) (fun ρ => match ρ with | [_, .d (.int y)] => y.toNat | _ => 0) ⟨a, b, rfl, rfl⟩ fun ρ hI => ?_)
  obtain ⟨x, y, rfl, hg⟩ := hI
  refine ⟨_, _, (pt_ne (pd_var 1 rfl) pd_int), fun hc => ?_, fun hc => ?_⟩
  · have hy : (0 : Int) < y := by
      have h1 := hc
      simp at h1
      omega
    refine sds_one (sd_par 0 1 (pad_cons (pd_var 1 rfl) (pad_cons (pd_mod (pd_var 0 rfl) (pd_var 1 rfl) hy) pad_nil)) ⟨⟨y, x % y, rfl, ?_⟩, ?_⟩ sc.nd)
    · rw [← hg, Nat.gcd_comm x y, Nat.gcd_comm y (x % y), ← Nat.gcd_rec]
    · show ((x : Int) % (y : Int)).toNat < ((y : Int)).toNat
      have := Int.emod_lt_of_pos (x : Int) hy
      have := Int.emod_nonneg (x : Int) (show (y : Int) ≠ 0 by omega)
      omega
  · have hy : y = 0 := by
      have h1 := hc
      simp at h1
      omega
    subst hy
    refine sds_one (sd_ret (pd_var 0 rfl) ?_)
    rw [← hg]
    simp
/-! ### part -/
theorem sc_part : FnScope ["top", "below", "least"] ["top", "below"] (defScope s_part) := ⟨rfl, rfl, rfl, by decide +kernel, rfl, by decide +kernel, by decide +kernel⟩
def RPart (ds : List D) (r : D) : Prop := ∃ t b : Int, ds = [.int t, .int b] ∧ 0 < b ∧ b.natAbs < 2 ^ 9000 ∧ r = qd (Rat.divInt t b)
theorem divW_gcd {t b : Int} (hb : 0 < b) (h : b.natAbs < 2 ^ 9000) (j : Int) : CDivW j (Nat.gcd t.natAbs b.natAbs : Nat) := by
  have h1 : 0 < Nat.gcd t.natAbs b.natAbs := Nat.gcd_pos_of_pos_right _ (by omega)
  have h2 : Nat.gcd t.natAbs b.natAbs ≤ b.natAbs := Nat.gcd_le_right _ (by omega)
  exact wide_div (b := 9000) (by omega) (by rw [Int.natAbs_natCast]; omega) (by decide) (by decide)
theorem abs_ite (t : Int) : (if t < 0 then -t else t) = ((t.natAbs : Nat) : Int) := by split <;> omega
theorem ok_part (T : Tx K mg) {f : Addr} {fd : FuncData} {dvs : List V} (F : FunD K "part" "part" (defArgs s_part) (defBody s_part) (defScope s_part) dvs [] f fd) (Fcommon : Fn P w K mg base "common" ["one", "other"] 1 (SpP ⟨P, w, K⟩ RCommon) []) : FnOk P w K mg base CX0 2 f fd ["top", "below"] (SpP ⟨P, w, K⟩ RPart) := by
  have sc := sc_part
  refine fn_pure F sc (by rintro ds r ⟨_, _, rfl, _⟩; rfl) (by decide) fun cdv A outer s H ds r hr hR => ?_
  obtain ⟨t, b, rfl, hb, hs, rfl⟩ := hR
  refine sds_cons (sd_ifF (pt_lt (pd_var 1 rfl) pd_int) (by simp; omega) (sds_nil ?_))
  refine sds_cons (sd_asg 2 (pd_call Fcommon (hr.mono (by decide)) dfl_nil (pad_cons (pd_abs T.abs (pd_var 0 rfl)) (pad_cons (pd_var 1 rfl) pad_nil)) ⟨t.natAbs, b.natAbs, ?_, rfl⟩) ?_ sc.nd)
  · rw [abs_ite, show ((b.natAbs : Nat) : Int) = b by omega]; rfl
  refine sds_one (sd_ret (pd_tup (pad_cons (pd_fdiv (pd_var 0 rfl) (pd_var 2 rfl) (divW_gcd hb hs _)) (pad_cons (pd_fdiv (pd_var 1 rfl) (pd_var 2 rfl) (divW_gcd hb hs _)) pad_nil)) (lenOk rfl)) ?_)
  unfold qd
  rw [part_num t b hb, part_den t b hb]
theorem fn_part (T : Tx K mg) (F : Dfn K mg "part" s_part [.int 1]) (Fcommon : Fn P w K mg base "common" ["one", "other"] 1 (SpP ⟨P, w, K⟩ RCommon) []) : Fn P w K mg base "part" ["top", "below"] 2 (SpP ⟨P, w, K⟩ RPart) [] :=
  F.fnd 2 1 (by decide) rfl (fun _ _ _ _ _ _ _ us its h1 h2 => match us, its, h1, h2 with | [_, _], [_], _, _ => ⟨_, rfl, rfl⟩) fun f fd F => ok_part T F Fcommon
theorem fn_part1 (T : Tx K mg) (F : Dfn K mg "part" s_part [.int 1]) (Fcommon : Fn P w K mg base "common" ["one", "other"] 1 (SpP ⟨P, w, K⟩ RCommon) []) : Fn P w K mg base "part" ["top", "below"] 2 (SpP ⟨P, w, K⟩ RPart) [.int 1] :=
  F.fnd 1 0 (by decide) rfl (fun _ _ _ _ _ _ _ us its h1 h2 => match us, its, h1, h2 with | [_], [_], _, _ => ⟨_, rfl, rfl⟩) fun f fd F => ok_part T F Fcommon
theorem dfl_one {B : Bs} : Dfl B [.int 1] [.int 1] := fun _ => .cons rep_int .nil
/-! ### plus, minus, times, over, is_less -/
def RPlus (ds : List D) (r : D) : Prop := ∃ a b : Rat, ds = [qd a, qd b] ∧ Sm a ∧ Sm b ∧ r = qd (a + b)
def RMinus (ds : List D) (r : D) : Prop := ∃ a b : Rat, ds = [qd a, qd b] ∧ Sm a ∧ Sm b ∧ r = qd (a - b)
def RTimes (ds : List D) (r : D) : Prop := ∃ a b : Rat, ds = [qd a, qd b] ∧ Sm a ∧ Sm b ∧ r = qd (a * b)
def ROver (ds : List D) (r : D) : Prop := ∃ a b : Rat, ds = [qd a, qd b] ∧ Sm a ∧ Sm b ∧ 0 < b ∧ b.num.natAbs < 2 ^ 4500 ∧ r = qd (a / b)
def RLess (ds : List D) (r : D) : Prop := ∃ a b : Rat, ds = [qd a, qd b] ∧ Sm a ∧ Sm b ∧ r = .bl (decide (a < b))
abbrev FPart (P : Program) (w : World) (K : PySem.W.Frag) (mg : Str → Option Value) (base : Heap) : Prop := Fn P w K mg base "part" ["top", "below"] 2 (SpP ⟨P, w, K⟩ RPart) []
theorem sc_plus : FnScope ["one", "other"] ["one", "other"] (defScope s_plus) := ⟨rfl, rfl, rfl, by decide +kernel, rfl, by decide +kernel, by decide +kernel⟩
theorem fn_plus (F : Dfn K mg "plus" s_plus []) (Fpart : FPart P w K mg base) : Fn P w K mg base "plus" ["one", "other"] 3 (SpP ⟨P, w, K⟩ RPlus) [] := by
  refine F.fn (fun _ _ _ _ _ _ us hl => match us, hl with | [_, _], _ => rfl) fun f fd F => ?_
  refine fn_pure F sc_plus (by rintro ds r ⟨_, _, rfl, _⟩; rfl) (by decide) fun cdv A outer s H ds r hr hR => ?_
  obtain ⟨a, b, rfl, ha, hb, rfl⟩ := hR
  exact sds_one (sd_ret (pd_call Fpart (hr.mono (by decide)) dfl_nil (pad_cons (pd_add (pd_mul (pd_at (pd_var 0 rfl) pd_int rfl) (pd_at (pd_var 1 rfl) pd_int rfl) (sm_nd ha hb)) (pd_mul (pd_at (pd_var 1 rfl) pd_int rfl) (pd_at (pd_var 0 rfl) pd_int rfl) (sm_nd hb ha))) (pad_cons (pd_mul (pd_at (pd_var 0 rfl) pd_int rfl) (pd_at (pd_var 1 rfl) pd_int rfl) (sm_dd ha hb)) pad_nil))
    ⟨_, _, rfl, sm_ddpos a b, sm_ddlt ha hb, rfl⟩) (by rw [divInt_add]))
theorem sc_minus : FnScope ["one", "other"] ["one", "other"] (defScope s_minus) := ⟨rfl, rfl, rfl, by decide +kernel, rfl, by decide +kernel, by decide +kernel⟩
theorem fn_minus (F : Dfn K mg "minus" s_minus []) (Fpart : FPart P w K mg base) : Fn P w K mg base "minus" ["one", "other"] 3 (SpP ⟨P, w, K⟩ RMinus) [] := by
  refine F.fn (fun _ _ _ _ _ _ us hl => match us, hl with | [_, _], _ => rfl) fun f fd F => ?_
  refine fn_pure F sc_minus (by rintro ds r ⟨_, _, rfl, _⟩; rfl) (by decide) fun cdv A outer s H ds r hr hR => ?_
  obtain ⟨a, b, rfl, ha, hb, rfl⟩ := hR
  exact sds_one (sd_ret (pd_call Fpart (hr.mono (by decide)) dfl_nil (pad_cons (pd_sub (pd_mul (pd_at (pd_var 0 rfl) pd_int rfl) (pd_at (pd_var 1 rfl) pd_int rfl) (sm_nd ha hb)) (pd_mul (pd_at (pd_var 1 rfl) pd_int rfl) (pd_at (pd_var 0 rfl) pd_int rfl) (sm_nd hb ha))) (pad_cons (pd_mul (pd_at (pd_var 0 rfl) pd_int rfl) (pd_at (pd_var 1 rfl) pd_int rfl) (sm_dd ha hb)) pad_nil))
    ⟨_, _, rfl, sm_ddpos a b, sm_ddlt ha hb, rfl⟩) (by rw [divInt_sub]))
theorem sc_times : FnScope ["one", "other"] ["one", "other"] (defScope s_times) := ⟨rfl, rfl, rfl, by decide +kernel, rfl, by decide +kernel, by decide +kernel⟩
theorem fn_times (F : Dfn K mg "times" s_times []) (Fpart : FPart P w K mg base) : Fn P w K mg base "times" ["one", "other"] 3 (SpP ⟨P, w, K⟩ RTimes) [] := by
  refine F.fn (fun _ _ _ _ _ _ us hl => match us, hl with | [_, _], _ => rfl) fun f fd F => ?_
  refine fn_pure F sc_times (by rintro ds r ⟨_, _, rfl, _⟩; rfl) (by decide) fun cdv A outer s H ds r hr hR => ?_
  obtain ⟨a, b, rfl, ha, hb, rfl⟩ := hR
  exact sds_one (sd_ret (pd_call Fpart (hr.mono (by decide)) dfl_nil (pad_cons (pd_mul (pd_at (pd_var 0 rfl) pd_int rfl) (pd_at (pd_var 1 rfl) pd_int rfl) (sm_nn ha hb)) (pad_cons (pd_mul (pd_at (pd_var 0 rfl) pd_int rfl) (pd_at (pd_var 1 rfl) pd_int rfl) (sm_dd ha hb)) pad_nil))
    ⟨_, _, rfl, sm_ddpos a b, sm_ddlt ha hb, rfl⟩) (by rw [divInt_mul]))
theorem sc_over : FnScope ["one", "other"] ["one", "other"] (defScope s_over) := ⟨rfl, rfl, rfl, by decide +kernel, rfl, by decide +kernel, by decide +kernel⟩
theorem fn_over (F : Dfn K mg "over" s_over []) (Fpart : FPart P w K mg base) : Fn P w K mg base "over" ["one", "other"] 3 (SpP ⟨P, w, K⟩ ROver) [] := by
  refine F.fn (fun _ _ _ _ _ _ us hl => match us, hl with | [_, _], _ => rfl) fun f fd F => ?_
  refine fn_pure F sc_over (by rintro ds r ⟨_, _, rfl, _⟩; rfl) (by decide) fun cdv A outer s H ds r hr hR => ?_
  obtain ⟨a, b, rfl, ha, hb, h0, hn, rfl⟩ := hR
  have hp : 0 < b.num := by
    have h1 : 0 ≤ b.num := Rat.num_nonneg.mpr (Rat.le_of_lt h0)
    have h2 : b.num ≠ 0 := fun z => Rat.ne_of_gt h0 (Rat.num_eq_zero.mp z)
    omega
  exact sds_one (sd_ret (pd_call Fpart (hr.mono (by decide)) dfl_nil (pad_cons (pd_mul (pd_at (pd_var 0 rfl) pd_int rfl) (pd_at (pd_var 1 rfl) pd_int rfl) (sm_nd ha hb)) (pad_cons (pd_mul (pd_at (pd_var 0 rfl) pd_int rfl) (pd_at (pd_var 1 rfl) pd_int rfl) (sm_dn ha hb)) pad_nil))
    ⟨_, _, rfl, Int.mul_pos (den_pos' a) hp, by
      rw [Int.natAbs_mul]
      exact Nat.lt_of_lt_of_le (mul_lt_pow ha.d hn) (Nat.pow_le_pow_right (Nat.zero_lt_succ 1) (by omega)), rfl⟩) (by rw [divInt_div]))
theorem sc_is_less : FnScope ["one", "other"] ["one", "other"] (defScope s_is_less) := ⟨rfl, rfl, rfl, by decide +kernel, rfl, by decide +kernel, by decide +kernel⟩
theorem fn_is_less (F : Dfn K mg "is_less" s_is_less []) : Fn P w K mg base "is_less" ["one", "other"] 1 (SpP ⟨P, w, K⟩ RLess) [] := by
  refine F.fn (fun _ _ _ _ _ _ us hl => match us, hl with | [_, _], _ => rfl) fun f fd F => ?_
  refine fn_pure F sc_is_less (by rintro ds r ⟨_, _, rfl, _⟩; rfl) (by decide) fun cdv A outer s H ds r hr hR => ?_
  obtain ⟨a, b, rfl, ha, hb, rfl⟩ := hR
  exact sds_one (sd_ret (pd_lt (pd_mul (pd_at (pd_var 0 rfl) pd_int rfl) (pd_at (pd_var 1 rfl) pd_int rfl) (sm_nd ha hb)) (pd_mul (pd_at (pd_var 1 rfl) pd_int rfl) (pd_at (pd_var 0 rfl) pd_int rfl) (sm_nd hb ha))) (by rw [lt_num]))
end
end WL
set_option Elab.async false
set_option linter.all false
set_option maxRecDepth 100000
set_option maxHeartbeats 4000000
namespace WL
open PySem PySem.Spec PyProof.Rows L2
section
variable {X : Cx} {ρ ρ' ρ1 ρ2 ρ3 ρ4 : List E} {e a b c : Expr} {es : List Expr} {pos p pos' ap : Pos} {d x y z r : D} {ds dd xs ys : List D} {i j k : Int} {P : Post}
/-! ### in over whole numbers -/
theorem flat_ints : ∀ is : List Int, (is.map V.int).all flatV = true
  | [] => rfl
  | i :: is => by rw [List.map_cons, List.all_cons, flat_ints is]; rfl
theorem inV_ints {i : Int} : ∀ is : List Int, inV (.int i) (is.map V.int) = decide (i ∈ is)
  | [] => by simp [inV]
  | j :: is => by
    show (eqV (V.int j) (V.int i) || inV (.int i) (is.map V.int)) = _
    rw [inV_ints is]
    show ((j == i) || _) = _
    by_cases h : j = i
    · subst h; simp
    · have : ¬ i = j := fun z => h z.symm
      simp [h, this]
theorem seq_rep {B : Bs} {H H' : Hp} {is : List Int} {v : V} (r : Rep B H x v) (e : Ex H H') (h : seqD x = some (is.map D.int)) : ∃ p, v = .ref p ∧ (SqL B.K H' p (is.map V.int) ∨ SqT B.K H' p (is.map V.int)) := by
  cases x with
  | tup zs =>
    cases h
    obtain ⟨t, ws, rfl, ht, rr⟩ := r.tup
    rw [← rr.ints]
    exact ⟨t, rfl, .inr (e.sqt ht)⟩
  | lst zs =>
    cases h
    obtain ⟨t, ws, rfl, ht, rr⟩ := r.lst
    rw [← rr.ints]
    exact ⟨t, rfl, .inl (SqL.of (e _ _ ht))⟩
  | _ => cases h
theorem pd_inS {is : List Int} (ha : PD X ρ a ρ1 (.int i)) (hb : PD X ρ1 b ρ2 x) (h : seqD x = some (is.map D.int)) (hm : behindInMarks .In b = false := by with_unfolding_all rfl) : PD X ρ (.Compare a [.In] [b] pos) ρ2 (.bl (decide (i ∈ is))) :=
  fun _ _ _ _ _ ev Q q => (pe_cmpR op_in_seq pe_w pe_w hm).w (ha _ _ _ _ _ ev _ fun v Hb1 H1 e1 x1 r1 => hb _ _ _ _ _ e1 _ fun w Hb2 H2 e2 x2 r2 => by
    obtain ⟨t, rfl, hs⟩ := seq_rep r2 e2.sub h
    obtain rfl := r1.int
    refine ⟨t, _, rfl, hs, rfl, flat_ints _, ?_⟩
    rw [if_neg Bool.false_ne_true, inV_ints]
    exact q _ Hb2 H2 e2 (x1.trans x2) rep_bl)
theorem pt_inS {is : List Int} (ha : PD X ρ a ρ1 (.int i)) (hb : PD X ρ1 b ρ2 x) (h : seqD x = some (is.map D.int)) (hm : behindInMarks .In b = false := by with_unfolding_all rfl) : PTD X ρ (.Compare a [.In] [b] pos) ρ2 (decide (i ∈ is)) :=
  fun _ _ _ _ _ ev Q q => (pt_cmpR op_in_seq pe_w pe_w hm).w (ha _ _ _ _ _ ev _ fun v Hb1 H1 e1 x1 r1 => hb _ _ _ _ _ e1 _ fun w Hb2 H2 e2 x2 r2 => by
    obtain ⟨t, rfl, hs⟩ := seq_rep r2 e2.sub h
    obtain rfl := r1.int
    refine ⟨t, _, rfl, hs, rfl, flat_ints _, _, rfl, ?_⟩
    rw [if_neg Bool.false_ne_true, inV_ints]
    exact q Hb2 H2 e2 (x1.trans x2))
theorem pd_notInS {is : List Int} (ha : PD X ρ a ρ1 (.int i)) (hb : PD X ρ1 b ρ2 x) (h : seqD x = some (is.map D.int)) (hm : behindInMarks .NotIn b = false := by with_unfolding_all rfl) : PD X ρ (.Compare a [.NotIn] [b] pos) ρ2 (.bl (!decide (i ∈ is))) :=
  fun _ _ _ _ _ ev Q q => (pe_cmpR op_notIn_seq pe_w pe_w hm).w (ha _ _ _ _ _ ev _ fun v Hb1 H1 e1 x1 r1 => hb _ _ _ _ _ e1 _ fun w Hb2 H2 e2 x2 r2 => by
    obtain ⟨t, rfl, hs⟩ := seq_rep r2 e2.sub h
    obtain rfl := r1.int
    refine ⟨t, _, rfl, hs, rfl, flat_ints _, ?_⟩
    rw [if_pos rfl, inV_ints]
    exact q _ Hb2 H2 e2 (x1.trans x2) rep_bl)
theorem pt_notInS {is : List Int} (ha : PD X ρ a ρ1 (.int i)) (hb : PD X ρ1 b ρ2 x) (h : seqD x = some (is.map D.int)) (hm : behindInMarks .NotIn b = false := by with_unfolding_all rfl) : PTD X ρ (.Compare a [.NotIn] [b] pos) ρ2 (!decide (i ∈ is)) :=
  fun _ _ _ _ _ ev Q q => (pt_cmpR op_notIn_seq pe_w pe_w hm).w (ha _ _ _ _ _ ev _ fun v Hb1 H1 e1 x1 r1 => hb _ _ _ _ _ e1 _ fun w Hb2 H2 e2 x2 r2 => by
    obtain ⟨t, rfl, hs⟩ := seq_rep r2 e2.sub h
    obtain rfl := r1.int
    refine ⟨t, _, rfl, hs, rfl, flat_ints _, _, rfl, ?_⟩
    rw [if_pos rfl, inV_ints]
    exact q Hb2 H2 e2 (x1.trans x2))
/-- x in range(lo, hi) -/
theorem pd_inR {lo hi : Expr} {l h : Int} (mr : X.mg "range" = none) (ha : PD X ρ a ρ1 (.int i)) (h1 : PD X ρ1 lo ρ2 (.int l)) (h2 : PD X ρ2 hi ρ3 (.int h)) (hg : Gl X "range" := by rfl)
    (na : starEach [lo, hi] X.env = (false, eval lo X.env) :: starEach [hi] X.env := by rfl) (nb : starEach [hi] X.env = (false, eval hi X.env) :: starEach [] X.env := by rfl) (hpl : (backTo pos' (starEach [hi] X.env)).any (·.1) = false := by rfl)
    (hm : behindInMarks .In (.Call (.Name "range" p) [lo, hi] [] pos') = false := by with_unfolding_all rfl) :
    PD X ρ (.Compare a [.In] [.Call (.Name "range" p) [lo, hi] [] pos'] pos) ρ3 (.bl (decide (l ≤ i ∧ i < h))) :=
  fun _ _ _ _ _ ev Q q => (pe_cmpR op_in_rng pe_w (pe_callTy cr_range2 hg mr PyProof.Rows.boot_range pa_w (by decide) (by decide) na hpl) hm).w (ha _ _ _ _ _ ev _ fun v Hb1 H1 e1 x1 r1 =>
    (pad_cons h1 (pad_cons h2 pad_nil nb) na) _ _ _ _ _ e1 _ fun vs Hb2 H2 e2 x2 r2 => by
      obtain ⟨v1, v2, rfl, q1, q2⟩ := r2.two
      obtain rfl := q1.int
      obtain rfl := q2.int
      obtain rfl := r1.int
      refine ⟨l, h, rfl, fun n hn => ⟨i, n, l, h, rfl, rfl, upd_same, q _ Hb2 _ (e2.newO hn) (x1.trans x2) rep_bl⟩⟩)
/-! ### a + b, [..] * n -/
theorem pl_cat (ha : PD X ρ a ρ1 (.lst xs)) (hb : PD X ρ1 b ρ2 (.lst ys)) (hz : xs.length + ys.length ≤ 100000) : PL X ρ (.BinOp a .Add b pos) ρ2 (.lst (xs ++ ys)) :=
  fun _ _ _ _ _ ev Q q => (pe_op op_cat pe_w pe_w).w (ha _ _ _ _ _ ev _ fun v Hb1 H1 e1 x1 r1 => hb _ _ _ _ _ e1 _ fun w Hb2 H2 e2 x2 r2 => by
    obtain ⟨t, vs, rfl, ht, rr⟩ := r1.lst
    obtain ⟨u, ws, rfl, hu, rs⟩ := r2.lst
    exact ⟨t, u, vs, ws, rfl, rfl, e2.sub _ _ (x2 _ _ ht), e2.sub _ _ hu, Nat.le_trans (by rw [← rr.length, ← rs.length]; exact hz) (by decide), fun n hn =>
      q n Hb2 _ _ (e2.newO hn) (x1.trans x2) (e2.sub.free hn) (e2.ex1.free hn) upd_same ⟨_, rfl, (Reps.mono x2 _ _ rr).append rs⟩ (e2.notOwn hn)⟩)
theorem reps_rep {B : Bs} {H : Hp} {d : D} {v : V} (r : Rep B H d v) : ∀ n : Nat, Reps B H (List.replicate n d) (List.replicate n [v]).flatten
  | 0 => by rw [List.replicate_zero, List.replicate_zero]; exact .nil
  | n + 1 => by rw [List.replicate_succ, List.replicate_succ]; exact .cons r (reps_rep r n)
theorem pl_rep {n : Nat} (ha : PD X ρ a ρ1 (.lst [d])) (hb : PD X ρ1 b ρ2 (.int n)) (hz : n ≤ 100000) : PL X ρ (.BinOp a .Mult b pos) ρ2 (.lst (List.replicate n d)) :=
  fun _ _ _ _ _ ev Q q => (pe_op op_rep pe_w pe_w).w (ha _ _ _ _ _ ev _ fun v Hb1 H1 e1 x1 r1 => hb _ _ _ _ _ e1 _ fun w Hb2 H2 e2 x2 r2 => by
    obtain ⟨t, vs, rfl, ht, rr⟩ := r1.lst
    obtain rfl := r2.int
    obtain ⟨v, rfl, rv⟩ := rr.one
    refine ⟨t, n, [v], rfl, rfl, e2.sub _ _ (x2 _ _ ht), by omega, by omega, Nat.le_trans (show [v].length * ((n : Int)).toNat ≤ 100000 by simp; omega) (by decide), fun m hn => ?_⟩
    exact q m Hb2 _ _ (e2.newO hn) (x1.trans x2) (e2.sub.free hn) (e2.ex1.free hn) upd_same ⟨_, rfl, by simpa using reps_rep (Rep.mono x2 _ _ rv) n⟩ (e2.notOwn hn))
/-! ### == and != of data -/
mutual
def pyOf : D → PyData
  | .non => .none
  | .bl b => .bool b
  | .int i => .int i
  | .tup ds => .tuple (pyOfs ds)
  | .lst ds => .list (pyOfs ds)
  | .scr ns => .list (ns.map .int)
  | _ => .none
def pyOfs : List D → List PyData
  | [] => []
  | d :: ds => pyOf d :: pyOfs ds
end
mutual
def okPy : D → Bool
  | .non => true
  | .bl b => true
  | .int i => true
  | .tup ds => okPys ds
  | .lst ds => okPys ds
  | .scr ns => true
  | _ => false
def okPys : List D → Bool
  | [] => true
  | d :: ds => okPy d && okPys ds
end
theorem dp_ints {K : PySem.W.Frag} {H : Hp} : ∀ ns : List Int, DpAll K H (ns.map V.int) (ns.map PyData.int)
  | [] => .nil
  | n :: ns => .cons (.int n) (dp_ints ns)
mutual
theorem dp_of {B : Bs} {H H' : Hp} (e : Ex H H') : ∀ (d : D) (v : V), Rep B H d v → okPy d = true → Dp B.K H' v (pyOf d)
  | .non, v, r, _ => by obtain rfl := r.non; rw [pyOf]; exact .non
  | .bl b, v, r, _ => by obtain rfl := r.bl; rw [pyOf]; exact .bl b
  | .int i, v, r, _ => by obtain rfl := r.int; rw [pyOf]; exact .int i
  | .tup ds, v, r, h => by
    obtain ⟨t, vs, rfl, ht, rr⟩ := r.tup
    rw [pyOf]
    exact .tup (e.sqt ht) (dp_ofs e ds vs rr (by rw [okPy] at h; exact h))
  | .lst ds, v, r, h => by
    obtain ⟨t, vs, rfl, ht, rr⟩ := r.lst
    rw [pyOf]
    exact .lst (SqL.of (e _ _ ht)) (dp_ofs e ds vs rr (by rw [okPy] at h; exact h))
  | .scr ns, v, r, _ => by
    rw [Rep] at r
    obtain ⟨t, rfl, ht⟩ := r
    rw [pyOf]
    exact .lst (e.sql ht) (dp_ints ns)
  | .ins _ _ _, v, r, h => by simp [okPy] at h
  | .dic _ _, v, r, h => by simp [okPy] at h
theorem dp_ofs {B : Bs} {H H' : Hp} (e : Ex H H') : ∀ (ds : List D) (vs : List V), Reps B H ds vs → okPys ds = true → DpAll B.K H' vs (pyOfs ds)
  | [], vs, r, _ => by rw [Reps] at r; subst r; rw [pyOfs]; exact .nil
  | d :: ds, vs, r, h => by
    rw [Reps] at r
    obtain ⟨v, ws, rfl, r1, r2⟩ := r
    rw [okPys, Bool.and_eq_true] at h
    rw [pyOfs]
    exact .cons (dp_of e d v r1 h.1) (dp_ofs e ds ws r2 h.2)
end
theorem pd_eqD {v : Bool} (hu : X.A.units + 64 < cLine) (ha : PD X ρ a ρ1 x) (hb : PD X ρ1 b ρ2 y) (h1 : okPy x = true) (h2 : okPy y = true) (s1 : SeqAt.shaped (pyOf x) = true) (s2 : SeqAt.shaped (pyOf y) = true) (hv : PyData.eqv (pyOf x) (pyOf y) = v) : PD X ρ (.Compare a [.Eq] [b] pos) ρ2 (.bl v) :=
  fun _ _ _ _ _ ev Q q => (pe_cmpR (op_eqD hu) pe_w pe_w (nomark _)).w (ha _ _ _ _ _ ev _ fun u Hb1 H1 e1 x1 r1 => hb _ _ _ _ _ e1 _ fun w Hb2 H2 e2 x2 r2 =>
    ⟨_, _, dp_of (x2.trans e2.sub) _ _ r1 h1, dp_of e2.sub _ _ r2 h2, s1, s2, by rw [hv]; exact q _ Hb2 H2 e2 (x1.trans x2) rep_bl⟩)
theorem pt_eqD {v : Bool} (hu : X.A.units + 64 < cLine) (ha : PD X ρ a ρ1 x) (hb : PD X ρ1 b ρ2 y) (h1 : okPy x = true) (h2 : okPy y = true) (s1 : SeqAt.shaped (pyOf x) = true) (s2 : SeqAt.shaped (pyOf y) = true) (hv : PyData.eqv (pyOf x) (pyOf y) = v) : PTD X ρ (.Compare a [.Eq] [b] pos) ρ2 v :=
  fun _ _ _ _ _ ev Q q => (pt_cmpR (op_eqD hu) pe_w pe_w (nomark _)).w (ha _ _ _ _ _ ev _ fun u Hb1 H1 e1 x1 r1 => hb _ _ _ _ _ e1 _ fun w Hb2 H2 e2 x2 r2 =>
    ⟨_, _, dp_of (x2.trans e2.sub) _ _ r1 h1, dp_of e2.sub _ _ r2 h2, s1, s2, _, rfl, by rw [hv]; exact q Hb2 H2 e2 (x1.trans x2)⟩)
theorem pt_neD {v : Bool} (hu : X.A.units + 64 < cLine) (ha : PD X ρ a ρ1 x) (hb : PD X ρ1 b ρ2 y) (h1 : okPy x = true) (h2 : okPy y = true) (s1 : SeqAt.shaped (pyOf x) = true) (s2 : SeqAt.shaped (pyOf y) = true) (hv : PyData.eqv (pyOf x) (pyOf y) = v) : PTD X ρ (.Compare a [.NotEq] [b] pos) ρ2 (!v) :=
  fun _ _ _ _ _ ev Q q => (pt_cmpR (op_neD hu) pe_w pe_w (nomark _)).w (ha _ _ _ _ _ ev _ fun u Hb1 H1 e1 x1 r1 => hb _ _ _ _ _ e1 _ fun w Hb2 H2 e2 x2 r2 =>
    ⟨_, _, dp_of (x2.trans e2.sub) _ _ r1 h1, dp_of e2.sub _ _ r2 h2, s1, s2, _, rfl, by rw [hv]; exact q Hb2 H2 e2 (x1.trans x2)⟩)
theorem shaped_ints (ns : List Int) : SeqAt.shaped (.list (ns.map PyData.int)) = true := by
  have h1 : ∀ ns : List Int, PyData.canLayAll0 (ns.map PyData.int) = true := fun ns => by
    induction ns with
    | nil => rfl
    | cons n ns ih => rw [List.map_cons, PyData.canLayAll0, ih]; rfl
  have h2 : ∀ ns : List Int, PyData.depthAll (ns.map PyData.int) = 0 := fun ns => by
    induction ns with
    | nil => rfl
    | cons n ns ih => rw [List.map_cons, PyData.depthAll, ih, PyData.depth]; rfl
  unfold SeqAt.shaped
  rw [PyData.canLay0, h1, PyData.depth, h2]
  rfl
/-! ### x[i] += n, x a list of one's own -/
theorem get_list : PGet X (fun o i H Q => ∃ p xs k v, o = .ref p ∧ i = .int k ∧ 0 ≤ k ∧ SqL X.K H p xs ∧ atI xs k = some v ∧ Q v H) := fun pins s σ H o i ov iv Q I ro ri h => by
  obtain ⟨p, xs, k, z, rfl, rfl, h0, hq, he, q⟩ := h
  cases ro
  obtain ⟨t, rfl⟩ := ri
  obtain ⟨its, r, pl, hz⟩ := I.list hq
  obtain ⟨j, h1, h2, h3, h4, h5⟩ := atI_get he
  obtain ⟨w, ew, rw'⟩ := r.get h2
  have hl := r.length
  have hn := line63
  have fin : EP X pins σ Q w s := ⟨z, H, I, rw', q⟩
  have hj : k.toNat = j := by
    rw [seqIndex_of h0 h5] at h1
    exact Option.some.inj h1
  exact wpAny_getItem_list pl.isList h0 (by omega) (by rw [hj]; simpa using ew) fin
theorem sd_augIx (n : Nat) {x : Str} {l : Addr} {m : Nat} {tpos : Pos} (h0 : ρ[n]? = some (.own l (.lst ds))) (hb : PD X ρ b ρ (.int k)) (hk : 0 ≤ k) (hm : ixN ds.length k = some m) (hd : ds[m]? = some (.int i)) (he : PD X ρ e ρ (.int j)) (q : P.nx (ρ.set n (.own l (.lst (ds.set m (.int (i + j)))))))
    (hN : X.N[n]? = some x := by rfl) (hv : Vis X.env.scope x := by first | exact Or.inl rfl | exact Or.inr (Or.inl rfl) | exact Or.inr (Or.inr rfl)) (hd1 : (x == ("__debug__" : Str)) = false := by decide) (hd2 : (x == ("__classdict__" : Str)) = false := by decide)
    (ha : ∀ ov iv new, augStore b ov iv new = (do holding [new, ov, iv] (setItem ov iv new); release [new, ov, iv] []; pure .next) := by intros; rfl) : SD X ρ (.AugAssign (.Subscript (.Name x p) b tpos) .Add e pos) P := fun Hb0 H0 σ Hb H ev => by
  refine (ps_augS (pe_var hN hv hd1 hd2) pe_w get_list pe_w ip_add set_list ha).w ?_
  obtain ⟨e1, _⟩ := ev.own n l _ h0
  refine ⟨.ref l, e1, hb _ _ _ _ _ ev _ fun w Hb1 H1 ev1 x1 r1 => ?_⟩
  obtain ⟨_, _, _, ho, h4, vs, rfl, rr⟩ := ev1.own n l _ h0
  obtain ⟨v, hv, rv⟩ := rr.get hd
  refine ⟨l, vs, k, v, rfl, r1.int, hk, SqL.of h4, ?_, ?_⟩
  · unfold atI
    rw [← rr.length, hm]
    exact hv
  refine he _ _ _ _ _ ev1 _ fun y Hb2 H2 ev2 x2 r2 => ⟨i, j, rv.int, r2.int, ?_⟩
  obtain ⟨_, _, _, ho2, h5, vs2, rfl, rr2⟩ := ev2.own n l _ h0
  refine ⟨l, vs2, k, m, rfl, r1.int, h5, by rw [← rr2.length]; exact hm, ?_⟩
  exact ⟨_, Hb2, ev2.mut (o' := .lst (ds.set m (.int (i + j)))) h0 ⟨_, rfl, rr2.set rep_int m⟩, q⟩
end
end WL
set_option Elab.async false
set_option linter.all false
set_option maxRecDepth 100000
set_option maxHeartbeats 4000000
namespace WL
open PySem PySem.Spec PyProof.Rows L2 PySem.W
theorem nolen_zip : typeLookup (.type "zip") "__len__" = pure none := by rw [typeLookup_type, builtinLookup_eq_fast]; kernel_rfl
theorem hint_zip : typeLookup (.type "zip") "__length_hint__" = pure none := by rw [typeLookup_type, builtinLookup_eq_fast]; kernel_rfl
section
variable {prog : Program} {w : World} {A : Around} {s : Shared} {R : Result → Shared → Prop}
/-- a zip of two lists behind i turns; S: the list that takes the pairs -/
structure ZSt (z TI TO i1 i2 l1 l2 S : Addr) (xs ys : Array Value) (h : Heap) (i : Nat) : Prop where
  ti : IsPair h TI (.ref i1) (.ref i2)
  a : h.IsListIter i1 l1 i
  b : h.IsListIter i2 l2 i
  la : h.IsList l1 xs
  lb : h.IsList l2 ys
  z : (IsZip h z TI TO .none ∧ ∃ a b, IsPair h TO a b) ∨ ∃ T f oT, IsZipHeld h z TI TO T f ∧ h.get? T = some oT ∧ T ≠ z ∧ T ≠ i1 ∧ T ≠ i2 ∧ T ≠ S
structure ZG (xs ys : Array Value) (lo : Addr) (h : Heap) (as : List Addr) : Prop where
  rise : as.Pairwise (· < ·)
  above : ∀ a ∈ as, lo ≤ a ∧ a < h.objs.size
  pairs : ∀ (j : Nat) (a : Addr), as[j]? = some a → ∃ x y, xs[j]? = some x ∧ ys[j]? = some y ∧ IsPair h a x y
theorem far {a b c : Nat} (h : a < b) (k : b ≤ c) : c ≠ a := Nat.ne_of_gt (Nat.lt_of_lt_of_le h k)
theorem zl_loop {z TI TO i1 i2 l1 l2 S lo : Addr} {xs ys : Array Value} {h₁ : Heap} (hh : A.handled = none) (D : ZipApart z TI TO i1 i2 l1 l2) (dS : S ≠ z ∧ S ≠ TI ∧ S ≠ TO ∧ S ≠ i1 ∧ S ≠ i2 ∧ S ≠ l1 ∧ S ≠ l2) (dl : S < lo ∧ z < lo ∧ TO < lo ∧ i1 < lo ∧ i2 < lo) (hn : min xs.size ys.size ≤ sizeLine) (res : Value)
    (hR : ∀ h' tk acc c as, (∀ b o, b ≠ S → b ≠ z → b ≠ TO → b ≠ i1 → b ≠ i2 → h₁.get? b = some o → h'.get? b = some o) → h'.get? S = some { cls := .type "list", dict := none, data := .seq acc c, slots := #[] } → as.length = min xs.size ys.size → ZG xs ys lo h' as →
      acc.toList = as.map Value.ref → R (.ok (.ret res)) { s with heap := h', toks := tk }) :
    ∀ (k i : Nat) (h : Heap) (tk c : Nat) (acc : Array Value) (as : List Addr), min xs.size ys.size - i = k → i ≤ min xs.size ys.size → ZSt z TI TO i1 i2 l1 l2 S xs ys h i → (∀ b o, b ≠ S → b ≠ z → b ≠ TO → b ≠ i1 → b ≠ i2 → h₁.get? b = some o → h.get? b = some o) →
      h.get? S = some { cls := .type "list", dict := none, data := .seq acc c, slots := #[] } → acc.toList = as.map Value.ref → as.length = i → ZG xs ys lo h as → lo ≤ h.objs.size →
      codeAny (model prog w) A (.builtin "list.extend.loop" ⟨[.ref S, .ref z, res], []⟩) R { s with heap := h, toks := tk } := by
  intro k
  obtain ⟨dz, dTI, dTO, d1, d2, dl1, dl2⟩ := dS
  obtain ⟨oS, oz, oTO, o1, o2⟩ := dl
  induction k with
  | zero =>
    intro i h tk c acc as hk hi hst hkeep hS hacc hal hG hlo
    have hin : i = min xs.size ys.size := by omega
    refine codeAny_builtin PySem.F.entry_extend_loop ?_
    rw [Around.under_plainId PySem.F.plain_extend_loop _]
    show wpAny _ A.in1 (pyNext (.ref z) >>= _) _ _ _
    have hend : xs[i]? = none ∨ ys[i]? = none := by
      subst hin
      rcases Nat.le_total xs.size ys.size with h | h
      · exact .inl (Array.getElem?_eq_none (by rw [Nat.min_eq_left h]; exact Nat.le_refl _))
      · exact .inr (Array.getElem?_eq_none (by rw [Nat.min_eq_right h]; exact Nat.le_refl _))
    have fin : ∀ h' : Heap, (∀ b o, b ≠ z → b ≠ TO → b ≠ i1 → b ≠ i2 → h.get? b = some o → h'.get? b = some o) → R (.ok (.ret res)) { s with heap := h', toks := tk } := fun h' he =>
      hR h' tk acc c as (fun b o h1 h2 h3 h4 h5 e => he b o h2 h3 h4 h5 (hkeep b o h1 h2 h3 h4 h5 e)) (he S _ dz dTO d1 d2 hS) (by omega) ⟨hG.rise, fun a ha => ⟨(hG.above a ha).1, by
        obtain ⟨j, hj⟩ := List.getElem?_of_mem ha
        obtain ⟨x, y, _, _, e3⟩ := hG.pairs j a hj
        have := (hG.above a ha).1
        exact Heap.lt_size (he a _ (far oz this) (far oTO this) (far o1 this) (far o2 this) e3)⟩, fun j a hj => by
        obtain ⟨x, y, e1, e2, e3⟩ := hG.pairs j a hj
        have := (hG.above a (List.mem_of_getElem? hj)).1
        exact ⟨x, y, e1, e2, he a _ (far oz this) (far oTO this) (far o1 this) (far o2 this) e3⟩⟩ hacc
    rcases hst.z with ⟨hz, a, b, hTO⟩ | ⟨T, f, oT, hz, hT, r1, r2, r3, r4⟩
    · exact wpAny_bind (wpAny_pyNext_zip_end (s := { s with heap := h, toks := tk }) (A := A.in1) hh D hz hst.ti hTO hst.a hst.b hst.la hst.lb hend fun h' hk' => wpAny_pure (fin h' hk'))
    · exact wpAny_bind (wpAny_pyNext_zip_end_held (s := { s with heap := h, toks := tk }) (A := A.in1) hh D hz hT hst.ti hst.a hst.b hst.la hst.lb hend fun h' hk' => wpAny_pure (fin h' fun b o q1 _ q3 q4 e => hk' b o q1 q3 q4 e))
  | succ k ih =>
    intro i h tk c acc as hk hi hst hkeep hS hacc hal hG hlo
    have hlt : i < min xs.size ys.size := by omega
    have hsz : acc.size = i := by rw [← Array.length_toList, hacc, List.length_map, hal]
    have ex := Array.getElem?_eq_getElem (Nat.lt_of_lt_of_le hlt (Nat.min_le_left xs.size ys.size))
    have ey := Array.getElem?_eq_getElem (Nat.lt_of_lt_of_le hlt (Nat.min_le_right xs.size ys.size))
    generalize xs[i] = x at ex
    generalize ys[i] = y at ey
    refine codeAny_builtin PySem.F.entry_extend_loop ?_
    rw [Around.under_plainId PySem.F.plain_extend_loop _]
    show wpAny _ A.in1 (pyNext (.ref z) >>= _) _ _ _
    have nS : h.objs.size ≠ S := far oS hlo
    have fin : ∀ h' : Heap, (∀ b o, b ≠ z → b ≠ TO → b ≠ i1 → b ≠ i2 → h.get? b = some o → h'.get? b = some o) → IsPair h' h.objs.size x y → h'.objs.size = h.objs.size + 1 →
        ZSt z TI TO i1 i2 l1 l2 S xs ys h' (i + 1) → wpAny (model prog w) A.in1 (updateSeq S (·.push (Value.ref h.objs.size)) >>= fun _ => again (.builtin "list.extend.loop" ⟨[.ref S, .ref z, res], []⟩))
          (fun fin s' => match fin with | .done f => R (.ok f) s' | .again c' => c'.quiet = true ∧ codeAny (model prog w) A c' R s') (fun e s' => R (.error e) s') { s with heap := h', toks := tk } := fun h' hkp ht hz' st' => by
      have hS' := hkp S _ dz dTO d1 d2 hS
      have up : ∀ b o, b ≠ S → h'.get? b = some o → (h'.update S (Obj.mapSeq (·.push (Value.ref h.objs.size)))).get? b = some o := fun b o hb e => (Heap.get?_update_other _ _ (Ne.symm hb)).trans e
      have hsz' : (h'.update S (Obj.mapSeq (·.push (Value.ref h.objs.size)))).objs.size = h.objs.size + 1 := by rw [Heap.size_update, hz']
      refine wpAny_bind ?_
      refine wpAny_updateSeq hS' rfl (wpAny_pure ⟨plainId_quiet PySem.F.plain_extend_loop _, ih (i + 1) _ tk _ (acc.push (Value.ref h.objs.size)) (as ++ [h.objs.size]) (by omega) hlt ?_
        (fun b o h1 h2 h3 h4 h5 e => up b o h1 (hkp b o h2 h3 h4 h5 (hkeep b o h1 h2 h3 h4 h5 e))) (Heap.get?_update_self _ hS' rfl) (by rw [Array.toList_push, hacc, List.map_append]; rfl) (by rw [List.length_append, hal]; rfl) ⟨?_, ?_, ?_⟩ (by rw [hsz']; exact Nat.le_succ_of_le hlo)⟩) (by rw [hsz]; omega) (by show (acc.push (Value.ref h.objs.size)).size ≤ sizeLine + 1; rw [Array.size_push, hsz]; omega)
      · refine ⟨up _ _ (Ne.symm dTI) st'.ti, st'.a.at fun o e => up _ o (Ne.symm d1) e, st'.b.at fun o e => up _ o (Ne.symm d2) e, st'.la.at fun o e => up _ o (Ne.symm dl1) e, st'.lb.at fun o e => up _ o (Ne.symm dl2) e, ?_⟩
        rcases st'.z with ⟨hz, a, b, hTO⟩ | ⟨T, f, oT, hz, hT, r1, r2, r3, r4⟩
        · exact .inl ⟨up _ _ (Ne.symm dz) hz, a, b, up _ _ (Ne.symm dTO) hTO⟩
        · exact .inr ⟨T, f, oT, up _ _ (Ne.symm dz) hz, up _ _ r4 hT, r1, r2, r3, r4⟩
      · refine List.pairwise_append.mpr ⟨hG.rise, List.pairwise_singleton _ _, fun a ha b hb => ?_⟩
        rw [List.mem_singleton.mp hb]
        exact (hG.above a ha).2
      · intro a ha
        rw [hsz']
        rcases List.mem_append.mp ha with ha | ha
        · exact ⟨(hG.above a ha).1, Nat.lt_succ_of_lt (hG.above a ha).2⟩
        · rw [List.mem_singleton.mp ha]; exact ⟨hlo, Nat.lt_succ_self _⟩
      · intro j b hj
        rcases Nat.lt_trichotomy j as.length with h1 | h1 | h1
        · rw [List.getElem?_append_left h1] at hj
          obtain ⟨x', y', e1, e2, e3⟩ := hG.pairs j b hj
          have hb := (hG.above b (List.mem_of_getElem? hj)).1
          exact ⟨x', y', e1, e2, up b _ (far oS hb) (hkp b _ (far oz hb) (far oTO hb) (far o1 hb) (far o2 hb) e3)⟩
        · subst h1
          have hb : h.objs.size = b := by simpa using hj
          subst hb
          subst hal
          exact ⟨x, y, ex, ey, up _ _ nS ht⟩
        · have hnone : (as ++ [h.objs.size])[j]? = none := List.getElem?_eq_none (by rw [List.length_append, List.length_singleton]; omega)
          rw [hnone] at hj; cases hj
    have lt : ∀ {c o}, h.get? c = some o → h.objs.size ≠ c := fun e => Nat.ne_of_gt (Heap.lt_size e)
    have n1 : h.objs.size ≠ i1 := let ⟨_, e, _⟩ := hst.a; lt e
    have n2 : h.objs.size ≠ i2 := let ⟨_, e, _⟩ := hst.b; lt e
    rcases hst.z with ⟨hz, a, b, hTO⟩ | ⟨T, f, oT, hz, hT, r1, r2, r3, r4⟩
    · refine wpAny_bind (wpAny_pyNext_zip_item (s := { s with heap := h, toks := tk }) (A := A.in1) D hz hst.ti hTO hst.a hst.b hst.la hst.lb ex ey fun h' a1 a2 a3 a4 a5 a6 hk' => ?_)
      exact fin h' hk' a5 a6 ⟨hk' _ _ D.TIz D.TITO D.TIi1 D.TIi2 hst.ti, a3, a4, hst.la.at fun o e => hk' _ o D.l1z D.l1TO D.l1i1 D.l1i2 e, hst.lb.at fun o e => hk' _ o D.l2z D.l2TO D.l2i1 D.l2i2 e, .inr ⟨_, _, _, a1, a5, lt hz, n1, n2, nS⟩⟩
    · refine wpAny_bind (wpAny_pyNext_zip_item_held (s := { s with heap := h, toks := tk }) (A := A.in1) D hz hT hst.ti hst.a hst.b hst.la hst.lb ex ey fun h' a1 a3 a4 a5 a6 hk' => ?_)
      exact fin h' (fun b o q1 _ q3 q4 e => hk' b o q1 q3 q4 e) a5 a6 ⟨hk' _ _ D.TIz D.TIi1 D.TIi2 hst.ti, a3, a4, hst.la.at fun o e => hk' _ o D.l1z D.l1i1 D.l1i2 e, hst.lb.at fun o e => hk' _ o D.l2z D.l2i1 D.l2i2 e, .inr ⟨T, true, oT, a1, hk' _ _ r1 r2 r3 hT, r1, r2, r3, r4⟩⟩
end
section
variable {prog : Program} {w : World} {A : Around} {E : Value → Shared → Prop} {s : Shared} {z TI TO i1 i2 l1 l2 : Addr} {xs ys : Array Value}
/-- list(z), z a zip at its start -/
theorem zl_call {Q : Value → Shared → Prop} (hh : A.handled = none) (D : ZipApart z TI TO i1 i2 l1 l2) (hz : IsZip s.heap z TI TO .none) (hTI : IsPair s.heap TI (.ref i1) (.ref i2)) (hTO : ∃ a b, IsPair s.heap TO a b) (h1 : s.heap.IsListIter i1 l1 0) (h2 : s.heap.IsListIter i2 l2 0) (hl1 : s.heap.IsList l1 xs) (hl2 : s.heap.IsList l2 ys) (hn : min xs.size ys.size ≤ sizeLine)
    (hQ : ∀ h' tk acc c as, (∀ b o, b ≠ z → b ≠ TO → b ≠ i1 → b ≠ i2 → s.heap.get? b = some o → h'.get? b = some o) → h'.get? s.heap.objs.size = some { cls := .type "list", dict := none, data := .seq acc c, slots := #[] } → as.length = min xs.size ys.size → ZG xs ys (s.heap.objs.size + 1) h' as →
      acc.toList = as.map Value.ref → Q (.ref s.heap.objs.size) { s with heap := h', toks := tk }) :
    wpAny (model prog w) A (call (.type "list") [.ref z]) Q E s := by
  refine callType_codes (Q₁ := fun obj s₁ => obj = .ref s.heap.objs.size ∧ s₁ = { s with heap := s.heap.push { cls := .type "list", data := .seq #[] } }) PySem.F.called_list (PySem.F.typeCall_list_1 _) PySem.F.entry_list_init
    (code_list_new _ ⟨rfl, rfl⟩) fun obj s₁ h₁ => ?_
  obtain ⟨rfl, rfl⟩ := h₁
  generalize hSe : s.heap.objs.size = S at hQ ⊢
  have pu : ∀ b o, s.heap.get? b = some o → (s.heap.push { cls := .type "list", data := .seq #[] }).get? b = some o := fun b o e => Heap.get?_push_of_some _ e
  have hS : (s.heap.push { cls := .type "list", data := .seq #[] }).get? S = some { cls := .type "list", data := .seq #[] } := by rw [← hSe]; exact Heap.get?_push_size _ rfl
  have ltS : ∀ {b o}, s.heap.get? b = some o → b < S := fun e => by rw [← hSe]; exact Heap.lt_size e
  have lz := ltS hz
  have lTI := ltS hTI
  have lTO : TO < S := let ⟨_, _, e⟩ := hTO; ltS e
  have li1 : i1 < S := let ⟨_, e, _⟩ := h1; ltS e
  have li2 : i2 < S := let ⟨_, e, _⟩ := h2; ltS e
  have ll1 : l1 < S := let ⟨_, e, _⟩ := hl1; ltS e
  have ll2 : l2 < S := let ⟨_, e, _⟩ := hl2; ltS e
  have dS : S ≠ z ∧ S ≠ TI ∧ S ≠ TO ∧ S ≠ i1 ∧ S ≠ i2 ∧ S ≠ l1 ∧ S ≠ l2 := ⟨Nat.ne_of_gt lz, Nat.ne_of_gt lTI, Nat.ne_of_gt lTO, Nat.ne_of_gt li1, Nat.ne_of_gt li2, Nat.ne_of_gt ll1, Nat.ne_of_gt ll2⟩
  have dl : S < S + 1 ∧ z < S + 1 ∧ TO < S + 1 ∧ i1 < S + 1 ∧ i2 < S + 1 := ⟨Nat.lt_succ_self _, Nat.lt_succ_of_lt lz, Nat.lt_succ_of_lt lTO, Nat.lt_succ_of_lt li1, Nat.lt_succ_of_lt li2⟩
  refine ⟨⟨_, hS, rfl⟩, PySem.F.args_list_init_2 _ _, ?_⟩
  have key : ∀ (h : Heap) (tk c₁ : Nat), (∀ b o, b ≠ S → s.heap.get? b = some o → h.get? b = some o) → h.get? S = some { cls := .type "list", dict := none, data := .seq #[] c₁, slots := #[] } → S + 1 ≤ h.objs.size →
      codeAny (model prog w) A.in1 (.builtin "list.extend.loop" ⟨[.ref S, .ref z, .none], []⟩) (wants (fun r s₂ => r = .none ∧ Q (.ref S) s₂) E) { s with heap := h, toks := tk } := fun h tk c₁ hk hS1 hlo => by
    refine zl_loop (A := A.in1) (s := s) (h₁ := s.heap) hh D dS dl hn .none (fun h' tk acc c as a1 a2 a3 a4 a5 => ⟨rfl, hQ h' tk acc c as (fun b o q1 q2 q3 q4 e => a1 b o (Nat.ne_of_lt (ltS e)) q1 q2 q3 q4 e) a2 a3 a4 a5⟩) (min xs.size ys.size) 0 h tk c₁ #[] [] (Nat.sub_zero _) (Nat.zero_le _) ?_ (fun b o h0 _ _ _ _ e => hk b o h0 e) hS1 rfl rfl ⟨.nil, (fun _ ha => nomatch ha), (fun j a hj => by simp at hj)⟩ hlo
    obtain ⟨a, b, hTO⟩ := hTO
    exact ⟨hk _ _ (Ne.symm dS.2.1) hTI, h1.at fun o e => hk _ o (Ne.symm dS.2.2.2.1) e, h2.at fun o e => hk _ o (Ne.symm dS.2.2.2.2.1) e, hl1.at fun o e => hk _ o (Ne.symm dS.2.2.2.2.2.1) e, hl2.at fun o e => hk _ o (Ne.symm dS.2.2.2.2.2.2) e, .inl ⟨hk _ _ (Ne.symm dS.1) hz, a, b, hk _ _ (Ne.symm dS.2.2.1) hTO⟩⟩
  show wpAny _ _ (do let old ← Builtin.List.listItems (.ref S); Builtin.List.listUpdate (.ref S) (fun _ => #[]); letGo old.toList.reverse; Builtin.List.listExtendWith (.ref S) (.ref z) .none) _ _ _
  refine wpAny_bind ?_
  unfold Builtin.List.listItems
  refine wpAny_bind (wpAny_seqItems hS rfl (wpAny_pure ?_))
  show wpAny _ _ (updateSeq S (fun _ => #[]) >>= fun _ => letGo (#[] : Array Value).toList.reverse >>= fun _ => Builtin.List.listExtendWith (.ref S) (.ref z) .none) _ _ _
  refine wpAny_bind (wpAny_updateSeq hS rfl ?_)
  have hS₂ := Heap.get?_update_self (Obj.mapSeq (fun _ => (#[] : Array Value))) hS rfl
  generalize hh2 : ((s.heap.push { cls := .type "list", data := .seq #[] }).update S (Obj.mapSeq (fun _ => (#[] : Array Value)))) = H2 at *
  have oth : ∀ b o, b ≠ S → s.heap.get? b = some o → H2.get? b = some o := fun b o hb e => by
    rw [← hh2]; exact (Heap.get?_update_other _ _ (Ne.symm hb)).trans (pu b o e)
  have sz2 : S + 1 ≤ H2.objs.size := by
    rw [← hh2, Heap.size_update, Heap.size_push, hSe]
    exact Nat.le_refl _
  refine wpAny_bind (wpAny_letGo ?_)
  unfold Builtin.List.listExtendWith
  have hz2 := oth _ _ (Nat.ne_of_lt lz) hz
  refine wpAny_bind (wpAny_typeOf (T := "zip") ⟨_, hz2, rfl⟩ ?_)
  have e1 : Builtin.List.listSameRef (.ref S) (.ref z) = false := by simp [Builtin.List.listSameRef, dS.1]
  have e2 : (Value.type "zip" == Value.type "list") = false := by decide
  have e3 : (Value.type "zip" == Value.type "tuple") = false := by decide
  simp only [e1, e2, e3, Bool.or_false, Bool.false_eq_true, if_false]
  refine wpAny_bind (wpAny_pyIter_zip hz2 ?_)
  refine wpAny_bind (wpAny_holding ?_)
  unfold Builtin.List.listLengthHint
  refine wpAny_bind (wpAny_specialOf (T := "zip") ⟨_, hz2, rfl⟩ nolen_zip ?_)
  show wpAny _ _ (specialOf (Value.ref z) (Str.ofString "__length_hint__") >>= _) _ _ _
  refine wpAny_bind (wpAny_specialOf (T := "zip") ⟨_, hz2, rfl⟩ hint_zip ?_)
  refine wpAny_pure ?_
  show wpAny _ _ (rule "list.extend.makes-room" >>= fun _ => Builtin.List.listTouch (.ref S) >>= fun _ =>
    again (.builtin "list.extend.loop" ⟨[.ref S, .ref z, .none], []⟩)) _ _ _
  refine wpAny_bind (wpAny_rule ?_)
  refine wpAny_bind ?_
  show wpAny _ _ (updateSeq S (·.push .none) >>= fun _ => updateSeq S (·.pop)) _ _ _
  refine wpAny_bind (wpAny_updateSeq hS₂ rfl ?_)
  have hS₃ := Heap.get?_update_self (Obj.mapSeq (·.push Value.none)) hS₂ rfl
  refine wpAny_updateSeq (hz := by seq_fits) hS₃ rfl ?_
  have hS₄ := Heap.get?_update_self (Obj.mapSeq (·.pop)) hS₃ rfl
  exact wpAny_pure ⟨plainId_quiet PySem.F.plain_extend_loop _, key _ _ _ (fun b o hb e => (Heap.get?_update_other _ _ (Ne.symm hb)).trans ((Heap.get?_update_other _ _ (Ne.symm hb)).trans (oth b o hb e))) hS₄ (by rw [Heap.size_update, Heap.size_update]; exact sz2)⟩
end
/-- the tuples tracked at their addresses -/
def putP : Hp → List Addr → List V → List V → Hp
  | H, a :: as, x :: xs, y :: ys => putP (upd H a (.tup [x, y])) as xs ys
  | H, _, _, _ => H
theorem putP_off {b : Addr} : ∀ (as : List Addr) (xs ys : List V) (H : Hp), b ∉ as → putP H as xs ys b = H b
  | [], _, _, _, _ => by rw [putP]; intros; simp_all
  | a :: as, [], _, _, _ => by rw [putP]; intros; simp_all
  | a :: as, _ :: _, [], _, _ => by rw [putP]; intros; simp_all
  | a :: as, x :: xs, y :: ys, H, h => by
    rw [putP, putP_off as xs ys _ (fun z => h (List.mem_cons_of_mem _ z)), upd_ne (fun z => h (by rw [z]; exact List.mem_cons_self))]
theorem putP_at : ∀ (as : List Addr) (xs ys : List V) (H : Hp), as.length ≤ xs.length → as.length ≤ ys.length → as.Nodup → ∀ (j : Nat) (t : Addr), as[j]? = some t → ∃ x y, xs[j]? = some x ∧ ys[j]? = some y ∧ putP H as xs ys t = some (.tup [x, y])
  | [], _, _, _, _, _, _, j, t, h => by simp at h
  | _ :: _, [], _, _, h, _, _, _, _, _ => by simp at h
  | _ :: _, _ :: _, [], _, _, h, _, _, _, _ => by simp at h
  | a :: as, x :: xs, y :: ys, H, h1, h2, hn, j, t, h => by
    have hn' := List.nodup_cons.mp hn
    rw [putP]
    cases j with
    | zero =>
      obtain rfl : a = t := by simpa using h
      exact ⟨x, y, rfl, rfl, by rw [putP_off as xs ys _ hn'.1, upd_same]⟩
    | succ j => exact putP_at as xs ys _ (by simpa using h1) (by simpa using h2) hn'.2 j t (by simpa using h)
section
variable {X : Cx} {ρ ρ' ρ1 ρ2 ρ3 ρ4 : List E} {e a b c : Expr} {es : List Expr} {pos p pos' ap : Pos} {d x y z r : D} {ds dd xs ys : List D} {i j k : Int} {P : Post}
theorem zl_laid {pins : List (Addr × Obj)} {σ : L2.St} {H : Hp} {s : Shared} {S : Addr} {h' : Heap} {tk : Nat} {xs ys : List V} {its its2 : List Value} {acc : Array Value} {c : Nat} {as : List Addr} (I : Inv X pins σ H s) (hz : xs.length ≤ sizeLine) (rx : Vals xs its) (ry : Vals ys its2) (hge : s.heap.objs.size ≤ S)
    (hk : ∀ b o, s.heap.get? b = some o → h'.get? b = some o) (hS : h'.get? S = some { cls := .type "list", dict := none, data := .seq acc c, slots := #[] }) (hl : as.length = min its.toArray.size its2.toArray.size) (hG : ZG its.toArray its2.toArray (S + 1) h' as) (hacc : acc.toList = as.map Value.ref) :
    ∃ H' : Hp, Ex H H' ∧ H S = none ∧ (∀ t ∈ as, H t = none) ∧ S ∉ as ∧ H' S = some (.lst (as.map V.ref)) ∧ as.length = min xs.length ys.length ∧ (∀ (j : Nat) (t : Addr), as[j]? = some t → ∃ x y, xs[j]? = some x ∧ ys[j]? = some y ∧ H' t = some (.tup [x, y])) ∧ Inv X pins σ H' { s with heap := h', toks := tk } := by
  have lx := rx.length
  have ly := ry.length
  have hl' : as.length = min xs.length ys.length := by rw [hl, lx, ly]; simp
  have hSn : S ∉ as := fun z => Nat.lt_irrefl _ (hG.above _ z).1
  have nd : as.Nodup := List.Pairwise.imp (fun {a b} (h : a < b) => Nat.ne_of_lt h) hG.rise
  have new : ∀ t ∈ as, H t = none := fun t ht => I.hok.fresh (Nat.le_trans hge (Nat.le_of_lt (hG.above t ht).1))
  have newS : H S = none := I.hok.fresh hge
  have atP := putP_at as xs ys (upd H S (.lst (as.map V.ref))) (by rw [hl']; exact Nat.min_le_left _ _) (by rw [hl']; exact Nat.min_le_right _ _) nd
  have off : ∀ b, b ∉ as → b ≠ S → putP (upd H S (.lst (as.map V.ref))) as xs ys b = H b := fun b h1 h2 => by rw [putP_off as xs ys _ h1, upd_ne h2]
  have low : ∀ b o, s.heap.get? b = some o → b ∉ as ∧ b ≠ S := fun b o e => ⟨fun z => absurd (Heap.lt_size e) (Nat.not_lt.mpr (Nat.le_trans hge (Nat.le_of_lt (hG.above b z).1))), Nat.ne_of_lt (Nat.lt_of_lt_of_le (Heap.lt_size e) hge)⟩
  have kp : ∀ b u, H b = some u → (putP (upd H S (.lst (as.map V.ref))) as xs ys) b = some u := fun b u e => by
    rw [off b (fun z => by rw [new b z] at e; cases e) (fun z => by rw [z, newS] at e; cases e)]
    exact e
  have eS : putP (upd H S (.lst (as.map V.ref))) as xs ys S = some (.lst (as.map V.ref)) := by rw [putP_off as xs ys _ hSn, upd_same]
  refine ⟨putP (upd H S (.lst (as.map V.ref))) as xs ys, kp, newS, new, hSn, eS, hl', atP, ?_⟩
  refine I.call' (ch := []) rfl ⟨fun b o q _ _ _ => hk b o q, fun b o q _ _ _ => ⟨o.slots, hk b o q⟩, fun b o q n _ => ?_, fun b o q _ => ⟨o, hk b o q⟩, fun b xs q => kp b _ q, fun b o u q => kp b _ q, fun b ps q => ⟨#[], by rw [kp b _ q]; simp⟩⟩ (fun b u q => ?_) I.bare fun b z => by simp at z
  · obtain ⟨z1, z2⟩ := low b o q
    rw [off b z1 z2]
    exact n
  · by_cases hb : b ∈ as
    · obtain ⟨j, e1⟩ := List.getElem?_of_mem hb
      obtain ⟨x, y, g1, g2, e3⟩ := atP j b e1
      rw [e3] at q
      cases q
      obtain ⟨u, v, f1, f2, f3⟩ := hG.pairs j b e1
      obtain ⟨u', k1, k2⟩ := rx.get g1
      obtain ⟨v', k3, k4⟩ := ry.get g2
      have q1 : u = u' := by
        have : its[j]? = some u := by simpa using f1
        rw [this] at k1; exact Option.some.inj k1
      have q2 : v = v' := by
        have : its2[j]? = some v := by simpa using f2
        rw [this] at k3; exact Option.some.inj k3
      subst q1
      subst q2
      exact ⟨by show 2 ≤ sizeLine; decide, [u, v], .cons k2 (.cons k4 .nil), ⟨_, f3, rfl, _, rfl⟩⟩
    · by_cases hb2 : b = S
      · rw [hb2] at q ⊢
        rw [eS] at q
        cases q
        refine ⟨by rw [List.length_map, hl']; exact Nat.le_trans (Nat.min_le_left _ _) hz, acc.toList, c, by rw [hacc]; exact LiI.vals_refs as, ?_⟩
        rw [Array.toArray_toList]
        exact hS
      · rw [off b hb hb2] at q
        exact (I.hok b u q).stay (fun d v _ y => hk d v y) (fun d y => kp d _ y) fun d xs y => kp d _ y
def tListZ (K : PySem.W.Frag) (ta : TA) : TE := fun σ H Q => ta σ H fun vs H1 => ∃ a b xs ys, vs = [.ref a, .ref b] ∧ SqL K H1 a xs ∧ SqL K H1 b ys ∧
  ∀ (H' : Hp) (p : Addr) (ts : List Addr), Ex H1 H' → H1 p = none → (∀ t ∈ ts, H1 t = none) → p ∉ ts → H' p = some (.lst (ts.map V.ref)) → ts.length = min xs.length ys.length → (∀ (j : Nat) (t : Addr), ts[j]? = some t → ∃ x y, xs[j]? = some x ∧ ys[j]? = some y ∧ H' t = some (.tup [x, y])) → Q (.ref p) H'
theorem pe_listZ {ta : TA} {p2 pos2 : Pos} (hc : X.calm = true) (hg : Gl X "list") (hm : X.mg "list" = none) (hg2 : Gl X "zip") (hm2 : X.mg "zip" = none) (ha : PA X [a, b] ta)
    (na : starEach [a, b] X.env = (false, eval a X.env) :: starEach [b] X.env := by rfl) (hp2 : (backTo pos2 (starEach [b] X.env)).any (·.1) = false := by rfl)
    (hs : starEach [.Call (.Name "zip" p2) [a, b] [] pos2] X.env = (false, eval (.Call (.Name "zip" p2) [a, b] [] pos2) X.env) :: starEach [] X.env := by rfl) :
    PE X (.Call (.Name "list" p) [.Call (.Name "zip" p2) [a, b] [] pos2] [] pos) (tListZ X.K ta) := by
  refine ⟨fun pins s σ H Q I hq => ?_⟩
  have inner : wpAny (model X.prog X.w) X.A (eval (.Call (.Name "zip" p2) [a, b] [] pos2) X.env) (fun v s' => wpAny (model X.prog X.w) X.A (call (.type "list") [v]) (EP X pins σ Q) X.xe s') X.xe s := by
    refine Call_ (ld_blt I hg2 hm2 PyProof.Rows.boot_zip (PyProof.Rows.callWith_type1 (thn (ha.run pos2 pins s σ H _ I hq) fun us s1 ⟨vs, H1, I1, r1, q1⟩ => ?_) na hp2))
    obtain ⟨a, b, xs, ys, ex, hqx, hqy, q⟩ := q1
    subst ex
    cases r1 with
    | cons r rr =>
      cases rr with
      | cons r' rr =>
        cases rr
        cases r
        cases r'
        obtain ⟨its, rv, p1, hz1⟩ := I1.list hqx
        obtain ⟨its2, rv2, p2, hz2⟩ := I1.list hqy
        have lx := rv.length
        refine call_zip_2 p1.isList p2.isList fun h' hz hTI hTO h1 h2 hsz hk => ?_
        have la : h'.IsList a its.toArray := p1.isList.at fun o e => hk _ o e
        have lb : h'.IsList b its2.toArray := p2.isList.at fun o e => hk _ o e
        refine zl_call (s := { s1 with heap := h' }) (I1.ok.hd hc) (PySem.W.ktu_apart s1.heap.objs.size a b p1.lt p2.lt) hz hTI ⟨_, _, hTO⟩ h1 h2 la lb (Nat.le_trans (Nat.min_le_left _ _) (by rw [List.size_toArray, ← lx]; exact hz1)) fun h2' tk acc c as a1 a2 a3 a4 a5 => ?_
        have far5 : ∀ {c o}, s1.heap.get? c = some o → ∀ n : Nat, c ≠ s1.heap.objs.size + n := fun e n => Nat.ne_of_lt (Nat.lt_of_lt_of_le (Heap.lt_size e) (Nat.le_add_right _ _))
        obtain ⟨H', k1, k2, k3, k4, k5, k6, k7, J⟩ := zl_laid (tk := tk) (S := h'.objs.size) I1 hz1 rv rv2 (by rw [hsz]; exact Nat.le_add_right _ _) (fun b o e => a1 b o (far5 e 4) (far5 e 3) (far5 e 0) (far5 e 1) (hk _ _ e)) a2 a3 a4 a5
        exact ⟨.ref _, H', J, rfl, q H' _ as k1 k2 k3 k4 k5 k6 k7⟩
  exact Call_ (ld_blt I hg hm boot_list (PyProof.Rows.callWith_type1 (args_cons (thn inner fun v s1 h => args_nil h) hs) hs))
/-- list(zip(a, b)) -/
theorem pl_listZ {p2 pos2 : Pos} (m : X.mg "list" = none) (mz : X.mg "zip" = none) (ha : PD X ρ a ρ1 (.lst xs)) (hb : PD X ρ1 b ρ2 (.lst ys)) (hc : X.calm = true := by rfl) (hg : Gl X "list" := by rfl) (hg2 : Gl X "zip" := by rfl)
    (na : starEach [a, b] X.env = (false, eval a X.env) :: starEach [b] X.env := by rfl) (nb : starEach [b] X.env = (false, eval b X.env) :: starEach [] X.env := by rfl) (hp2 : (backTo pos2 (starEach [b] X.env)).any (·.1) = false := by rfl)
    (hs : starEach [.Call (.Name "zip" p2) [a, b] [] pos2] X.env = (false, eval (.Call (.Name "zip" p2) [a, b] [] pos2) X.env) :: starEach [] X.env := by rfl) :
    PL X ρ (.Call (.Name "list" p) [.Call (.Name "zip" p2) [a, b] [] pos2] [] pos) ρ2 (.lst (zipD xs ys)) := fun Hb0 H0 σ Hb H ev Q q => by
  refine (pe_listZ hc hg m hg2 mz pa_w na hp2 hs).w ((pad_cons ha (pad_cons hb pad_nil nb) na) _ _ _ _ _ ev _ fun vs Hb1 H1 e1 x1 r1 => ?_)
  obtain ⟨v1, v2, rfl, r1, r2⟩ := r1.two
  obtain ⟨ta, us, rfl, ht, rr⟩ := r1.lst
  obtain ⟨tb, ws, rfl, hu, rs⟩ := r2.lst
  refine ⟨ta, tb, us, ws, rfl, SqL.of (e1.sub _ _ ht), SqL.of (e1.sub _ _ hu), fun H' S ts k1 k2 k3 k4 k5 k6 k7 => ?_⟩
  let Hb' : Hp := fun a => if a ∈ ts then H' a else Hb1 a
  have s1 : Ex Hb1 Hb' := fun a o h => by
    show (if a ∈ ts then H' a else Hb1 a) = some o
    split
    · exact k1 _ _ (e1.sub _ _ h)
    · exact h
  have s2 : Ex Hb' H' := fun a o h => by
    have h' : (if a ∈ ts then H' a else Hb1 a) = some o := h
    split at h'
    · exact h'
    · exact k1 _ _ (e1.sub _ _ h')
  have ev2 : EnvS (bs X) Hb0 H0 ρ2 σ Hb' H' := e1.grow s1 k1 s2 fun a o h => by
    show (if a ∈ ts then H' a else Hb1 a) = Hb1 a
    rw [if_neg]
    intro z
    rw [k3 a z] at h; cases h
  have nb' : Hb' S = none := by
    show (if S ∈ ts then H' S else Hb1 S) = none
    rw [if_neg k4]; exact e1.sub.free k2
  refine q S Hb' H' _ ev2 (x1.trans s1) nb' (e1.ex1.free k2) k5 ⟨ts.map V.ref, rfl, ?_⟩ (e1.notOwn k2)
  -- the pairs stand for the data
  have lxs := rr.length
  have lys := rs.length
  have gen : ∀ (n : Nat) (ts' : List Addr) (ds' : List D), ts'.length = ds'.length → (∀ (j : Nat) (t : Addr) (d : D), ts'[j]? = some t → ds'[j]? = some d → Rep (bs X) Hb' d (.ref t)) → Reps (bs X) Hb' ds' (ts'.map V.ref) := fun _ ts' => by
    induction ts' with
    | nil => intro ds' hl _; cases ds' with
      | nil => exact .nil
      | cons _ _ => simp at hl
    | cons t ts' ih => intro ds' hl h; cases ds' with
      | nil => simp at hl
      | cons d ds' => exact .cons (h 0 t d rfl rfl) (ih ds' (by simpa using hl) fun j t' d' h1 h2 => h (j + 1) t' d' h1 h2)
  refine gen 0 ts (zipD xs ys) (by rw [zipD_len, k6, lxs, lys]) fun j t dd hj hd => ?_
  obtain ⟨x, y, g1, g2, g3⟩ := k7 j t hj
  obtain ⟨d1, f1, f2⟩ := rr.getV g1
  obtain ⟨d2, f3, f4⟩ := rs.getV g2
  rw [zipD_get f1 f3] at hd
  cases hd
  refine rep_tup (SqT.of (show Hb' t = some (.tup [x, y]) from ?_)) (.cons (Rep.mono s1 _ _ f2) (.cons (Rep.mono s1 _ _ f4) .nil))
  show (if t ∈ ts then H' t else Hb1 t) = _
  rw [if_pos (List.mem_of_getElem? hj)]; exact g3
end
end WL
set_option Elab.async false
set_option linter.all false
set_option maxRecDepth 100000
set_option maxHeartbeats 4000000
namespace WL
open PySem PySem.Spec PyProof.Rows L2 PySem.W
mutual
def kOf : D → Bool
  | .int _ => true
  | .tup ds => kOfs ds
  | _ => false
def kOfs : List D → Bool
  | [] => true
  | d :: ds => kOf d && kOfs ds
end
def keyB (d : D) : Bool := kOf d && decide ((nk d).depth ≤ 8)
section
variable {X : Cx} {pins : List (Addr × Obj)} {σ : L2.St} {H : Hp} {s : Shared}
mutual
theorem nest_of (I : Inv X pins σ H s) : ∀ (d : D) (v : V) (u : Value), Rep (bs X) H d v → kOf d = true → RelV v u → NestedIs s.heap (nk d) u
  | .int i, v, u, r, _, h => by
    obtain rfl := r.int
    obtain ⟨t, rfl⟩ := h
    rw [nk]; exact .int i t
  | .tup ds, v, u, r, hk, h => by
    obtain ⟨p, vs, rfl, ht, rr⟩ := r.tup
    cases h
    rw [kOf] at hk
    obtain ⟨its, rv, ⟨o, ho, hc, n, hd⟩, _⟩ := I.tuple ht
    rw [nk]
    exact .tup ho hc hd (by simpa using nests_of I ds vs its rr hk rv)
  | .non, _, _, _, hk, _ => by simp [kOf] at hk
  | .bl _, _, _, _, hk, _ => by simp [kOf] at hk
  | .lst _, _, _, _, hk, _ => by simp [kOf] at hk
  | .ins _ _ _, _, _, _, hk, _ => by simp [kOf] at hk
  | .dic _ _, _, _, _, hk, _ => by simp [kOf] at hk
  | .scr _, _, _, _, hk, _ => by simp [kOf] at hk
theorem nests_of (I : Inv X pins σ H s) : ∀ (ds : List D) (vs : List V) (us : List Value), Reps (bs X) H ds vs → kOfs ds = true → Vals vs us → NestedAll s.heap (nk.nks ds) us
  | [], vs, us, r, _, h => by
    rw [Reps] at r
    subst r
    cases h
    rw [nk.nks]; exact .nil
  | d :: ds, vs, us, r, hk, h => by
    rw [Reps] at r
    obtain ⟨v, vs', rfl, r1, r2⟩ := r
    rw [kOfs, Bool.and_eq_true] at hk
    cases h with
    | cons h1 h2 =>
      rw [nk.nks]; exact .cons (nest_of I d _ _ r1 hk.1 h1) (nests_of I ds _ _ r2 hk.2 h2)
end
theorem key_is (I : Inv X pins σ H s) {d : D} {p : Addr} (r : Rep (bs X) H d (.ref p)) (hk : keyB d = true) : (nestedKind X.prog X.w).is s.heap (nk d) p := by
  unfold keyB at hk
  rw [Bool.and_eq_true] at hk
  exact ⟨nest_of I d _ _ r hk.1 rfl, of_decide_eq_true hk.2⟩
theorem nks_len : ∀ ks : List D, (nk.nks ks).length = ks.length
  | [] => by rw [nk.nks]; rfl
  | k :: ks => by rw [nk.nks, List.length_cons, nks_len ks]; rfl
theorem nks_get : ∀ (ks : List D) (i : Nat), (nk.nks ks)[i]? = ks[i]?.map nk
  | [], i => by rw [nk.nks]; simp
  | k :: ks, 0 => by rw [nk.nks]; rfl
  | k :: ks, i + 1 => by rw [nk.nks]; simpa using nks_get ks i
theorem nks_map (ks : List D) : nk.nks ks = ks.map nk := List.ext_getElem? fun i => by rw [nks_get, List.getElem?_map]
/-- what the rules need of a dict -/
structure DicR (B : Bs) (H : Hp) (d : Addr) (o : Obj) (ks : List D) (as : List Addr) (ws : List V) : Prop where
  at_ : H d = some (dicO B d o (nk.nks ks) as ws)
  l1 : as.length = ks.length
  l2 : ws.length = ks.length
  keys : Reps B H ks (as.map V.ref)
  ok : ks.all keyB = true
theorem DicR.own {B : Bs} {Hb H : Hp} {l : Addr} {ks ds : List D} {ho : HO} (e : Ex Hb H) (h : H l = some ho) (r : ORep B Hb l (.dic ks ds) ho) (ok : ks.all keyB = true) : ∃ o as ws, DicR B H l o ks as ws ∧ Reps B Hb ds ws ∧ ho = dicO B l o (nk.nks ks) as ws ∧ Reps B Hb ks (as.map V.ref) := by
  obtain ⟨o, as, ws, rfl, l1, l2, rk, rd⟩ := r
  exact ⟨o, as, ws, ⟨h, l1, l2, Reps.mono e _ _ rk, ok⟩, rd, rfl, rk⟩
theorem DicR.dat {B : Bs} {Hb H : Hp} {v : V} {ks ds : List D} (e : Ex Hb H) (r : Rep B Hb (.dic ks ds) v) (ok : ks.all keyB = true) : ∃ p o as ws, v = .ref p ∧ DicR B H p o ks as ws ∧ Reps B Hb ds ws ∧ Reps B Hb ks (as.map V.ref) ∧ Hb p = some (dicO B p o (nk.nks ks) as ws) := by
  rw [Rep] at r
  obtain ⟨p, o, as, ws, rfl, hp, l1, l2, rk, rd⟩ := r
  exact ⟨p, o, as, ws, rfl, ⟨e _ _ hp, l1, l2, Reps.mono e _ _ rk, ok⟩, rd, rk, hp⟩
theorem DicR.mono {B : Bs} {H H' : Hp} {d : Addr} {o : Obj} {ks : List D} {as : List Addr} {ws : List V} (h : DicR B H d o ks as ws) (e : Ex H H') : DicR B H' d o ks as ws := ⟨e _ _ h.at_, h.l1, h.l2, Reps.mono e _ _ h.keys, h.ok⟩
theorem DicR.raw {d : Addr} {o : Obj} {ks : List D} {as : List Addr} {ws : List V} (h : DicR (bs X) H d o ks as ws) (I : Inv X pins σ H s) : ∃ us, DicAt (bs X) d o (nk.nks ks) as ws us ∧ s.heap.get? d = some o ∧ s.heap.DictOfH (nestedKind X.prog X.w) d us := by
  obtain ⟨⟨hd, us, ha⟩, _, _⟩ := I.hok d _ h.at_
  refine ⟨us, ha, hd, ?_⟩
  obtain ⟨es, ep, e1, e2⟩ := ha.data
  refine ⟨o, es, ep, hd, ha.ex, e1, e2, fun x hx => ?_, ha.nd⟩
  obtain ⟨i, hi⟩ := List.getElem?_of_mem hx
  have hk : (nk.nks ks)[i]? = some x.1 := by rw [← ha.k, List.getElem?_map, hi]; rfl
  have hp : as[i]? = some x.2.1 := by rw [← ha.a, List.getElem?_map, hi]; rfl
  rw [nks_get] at hk
  obtain ⟨k, hk1, hk2⟩ := Option.map_eq_some_iff.mp hk
  obtain ⟨v, hv, rv⟩ := h.keys.get hk1
  rw [List.getElem?_map, hp] at hv
  cases hv
  rw [← hk2]
  exact key_is I rv (List.all_eq_true.mp h.ok k (List.mem_of_getElem? hk1))
theorem ext_ok {P : Program} {w : World} {H : Hp} {h : Heap} {B : Bs} {d : Addr} {o : Obj} {ns : List NestedKey} {as : List Addr} {ws : List V} {us : List (NestedKey × Addr × Value)} (hd : h.get? d = some o) (ha : DicAt B d o ns as ws us) : ObjOk P w H h d (dicO B d o ns as ws) :=
  ⟨⟨hd, us, ha⟩, ⟨o, hd⟩, fun h1 h2 ⟨q1, us', q2⟩ k => ⟨k _ q1, us', q2⟩⟩
/-- the key in the dict -/
theorem atKey_nks {ks : List D} {us : List (NestedKey × Addr × Value)} (hk : us.map (·.1) = nk.nks ks) (n : NestedKey) : (atKey us n).isSome = decide (n ∈ ks.map nk) := by
  rw [← nks_map, ← hk]
  unfold atKey
  rw [Option.isSome_map]
  by_cases h : n ∈ us.map (·.1)
  · obtain ⟨x, h1, h2⟩ := List.mem_map.mp h
    rw [decide_eq_true h, List.find?_isSome]
    exact ⟨x, h1, decide_eq_true h2⟩
  · rw [decide_eq_false h, Bool.eq_false_iff, Ne, List.find?_isSome]
    rintro ⟨x, h1, h2⟩
    exact h (List.mem_map.mpr ⟨x, h1, of_decide_eq_true h2⟩)
end
section
variable {X : Cx} {ρ ρ' ρ1 ρ2 ρ3 ρ4 : List E} {e a b c : Expr} {es : List Expr} {pos p pos' ap : Pos} {d x y z r kd vd : D} {ds dd xs ys ks : List D} {i j k : Int} {P : Post}
theorem room_nest (hu : X.A.units + 64 < cLine) : (nestedKind X.prog X.w).room X.A.in1 := by
  show X.A.in1.units + 8 < cLine
  have : X.A.in1.units ≤ X.A.units + 1 := by
    show X.A.units + _ ≤ _
    exact Nat.le_refl _
  omega
/-- x in a dict, not in it -/
theorem op_inK (hu : X.A.units + 64 < cLine) : OpR X (compareOp .In) (fun x y H Q => ∃ p d o ks as ws kd, x = .ref p ∧ y = .ref d ∧ DicR (bs X) H d o ks as ws ∧ Rep (bs X) H kd (.ref p) ∧ keyB kd = true ∧ Q (.bl (decide (nk kd ∈ ks.map nk))) H) := by
  intro pins s σ H x y v u Q I rx ry h
  obtain ⟨p, d, o, ks, as, ws, kd, rfl, rfl, hr, rk, hk, q⟩ := h
  cases rx
  cases ry
  obtain ⟨us, ha, hd, hH⟩ := hr.raw I
  refine wpAny_in_heap (room_nest hu) (key_is I rk hk) ha.low hH ?_
  rw [atKey_nks ha.k]
  exact ⟨.bl _, H, I.tok _, rfl, q⟩
theorem op_notInK (hu : X.A.units + 64 < cLine) : OpR X (compareOp .NotIn) (fun x y H Q => ∃ p d o ks as ws kd, x = .ref p ∧ y = .ref d ∧ DicR (bs X) H d o ks as ws ∧ Rep (bs X) H kd (.ref p) ∧ keyB kd = true ∧ Q (.bl (!decide (nk kd ∈ ks.map nk))) H) := by
  intro pins s σ H x y v u Q I rx ry h
  obtain ⟨p, d, o, ks, as, ws, kd, rfl, rfl, hr, rk, hk, q⟩ := h
  cases rx
  cases ry
  obtain ⟨us, ha, hd, hH⟩ := hr.raw I
  show wpAny _ _ (do return Value.bool (!(← contains (.ref d) (.ref p)))) _ _ s
  refine wpAny_bind (wpAny_contains_heap (room_nest hu) (key_is I rk hk) ha.low hH (wpAny_pure ?_))
  rw [atKey_nks ha.k]
  exact ⟨.bl _, H, I.tok _, rfl, q⟩
/-- e not in x, x a dict of one's own -/
theorem pt_notInK (n : Nat) {x : Str} {l : Addr} (hu : X.A.units + 64 < cLine) (ha : PD X ρ a ρ1 kd) (h0 : ρ1[n]? = some (.own l (.dic ks ds))) (ok : ks.all keyB = true) (hk : keyB kd = true) (hkt : ∃ zs, kd = .tup zs) (hm : behindInMarks .NotIn (.Name x p) = false := by with_unfolding_all rfl)
    (hN : X.N[n]? = some x := by rfl) (hv : Vis X.env.scope x := by first | exact Or.inl rfl | exact Or.inr (Or.inl rfl) | exact Or.inr (Or.inr rfl)) (hd1 : (x == ("__debug__" : Str)) = false := by decide) (hd2 : (x == ("__classdict__" : Str)) = false := by decide) :
    PTD X ρ (.Compare a [.NotIn] [.Name x p] pos) ρ1 (!decide (nk kd ∈ ks.map nk)) := fun _ _ _ _ _ ev Q q => (pt_cmpR (op_notInK hu) pe_w (pe_var hN hv hd1 hd2) hm).w (ha _ _ _ _ _ ev _ fun v Hb1 H1 e1 x1 r1 => by
  obtain ⟨g1, _, _, ho, h4, h5⟩ := e1.own n l _ h0
  obtain ⟨o, as, ws, hr, _, _, _⟩ := DicR.own e1.sub h4 h5 ok
  obtain ⟨zs, rfl⟩ := hkt
  obtain ⟨t, vs, rfl, ht, rr⟩ := id r1.tup
  exact ⟨.ref l, g1, t, l, o, ks, as, ws, _, rfl, rfl, hr, Rep.mono e1.sub _ _ r1, hk, _, rfl, q Hb1 H1 e1 x1⟩)
/-- x[e], x a dict of one's own -/
theorem ix_dicK (hu : X.A.units + 64 < cLine) : IxR X (fun x y H Q => ∃ (p d : Addr) (o : Obj) (ks : List D) (as : List Addr) (ws : List V) (kd : D) (i : Nat) (k' : D) (w : V), x = .ref d ∧ y = .ref p ∧ DicR (bs X) H d o ks as ws ∧ Rep (bs X) H kd (.ref p) ∧ keyB kd = true ∧ ks[i]? = some k' ∧ nk k' = nk kd ∧ ws[i]? = some w ∧ Q w H) := by
  intro value slice pins s σ H x y v u Q I rx ry h hs
  obtain ⟨p, d, o, ks, as, ws, kd, i, k', w, rfl, rfl, hr, rk, hk, hi, he, hw, q⟩ := h
  cases rx
  cases ry
  obtain ⟨us, ha, hd, hH⟩ := hr.raw I
  obtain ⟨u', hu', ru⟩ := ha.v.get hw
  rw [List.getElem?_map] at hu'
  obtain ⟨t, ht, rfl⟩ := Option.map_eq_some_iff.mp hu'
  have hk' : us[i]? = some (nk kd, t.2) := by
    have : (us.map (·.1))[i]? = some (nk kd) := by rw [ha.k, nks_get, hi, ← he]; rfl
    rw [List.getElem?_map, ht] at this
    have e : t.1 = nk kd := Option.some.inj this
    rw [ht, ← e]
  exact subscriptTail_builtinR (x := t.2.2) hH.typeIs slot_dict_getitem.lookup (wpAny_getItem_heap (Q := fun r s' => r = t.2.2 ∧ EP X pins σ Q r s') (room_nest hu) (key_is I rk hk) hH (atKey_of_get ha.nd hk') ⟨rfl, w, H, I.tok _, ru, q⟩) hs
theorem pd_atK (n : Nat) {x : Str} {l : Addr} {m : Nat} {k' : D} (hu : X.A.units + 64 < cLine) (h0 : ρ[n]? = some (.own l (.dic ks ds))) (hb : PD X ρ b ρ kd) (ok : ks.all keyB = true) (hk : keyB kd = true) (hkt : ∃ zs, kd = .tup zs) (hi : ks[m]? = some k') (he : nk k' = nk kd) (hd : ds[m]? = some d) (hs : PlainIx b := by intro _ _; rfl)
    (hN : X.N[n]? = some x := by rfl) (hv : Vis X.env.scope x := by first | exact Or.inl rfl | exact Or.inr (Or.inl rfl) | exact Or.inr (Or.inr rfl)) (hd1 : (x == ("__debug__" : Str)) = false := by decide) (hd2 : (x == ("__classdict__" : Str)) = false := by decide) :
    PD X ρ (.Subscript (.Name x p) b pos) ρ d := fun _ _ _ _ _ ev Q q => (pe_ix (ix_dicK hu) (pe_var hN hv hd1 hd2) pe_w hs).w ⟨.ref l, (ev.own n l _ h0).1, hb _ _ _ _ _ ev _ fun v Hb1 H1 e1 x1 r1 => by
  obtain ⟨g1, _, _, ho, h4, h5⟩ := e1.own n l _ h0
  obtain ⟨o, as, ws, hr, rd, _, _⟩ := DicR.own e1.sub h4 h5 ok
  obtain ⟨zs, rfl⟩ := hkt
  obtain ⟨t, vs, rfl, ht, rr⟩ := id r1.tup
  obtain ⟨w, hw, rw'⟩ := rd.get hd
  exact ⟨t, l, o, ks, as, ws, _, m, k', w, rfl, rfl, hr, Rep.mono e1.sub _ _ r1, hk, hi, he, hw, q w Hb1 H1 e1 x1 rw'⟩⟩
/-- a new key comes in -/
theorem storedH_fresh {us : List (NestedKey × Addr × Value)} {n : NestedKey} (h : n ∉ us.map (·.1)) (a : Addr) (v : Value) : storedH us n a v = us ++ [(n, a, v)] := by
  refine storedH_new ?_ a v
  refine atKey_none_of_get fun j p hj => h ?_
  exact List.mem_map.mpr ⟨_, List.mem_of_getElem? hj, rfl⟩
theorem d_newK {pins : List (Addr × Obj)} {σ : L2.St} {H : Hp} {s : Shared} {d : Addr} {o : Obj} {ks : List D} {as : List Addr} {ws : List V} {us : List (NestedKey × Addr × Value)} {kd : D} {a : Addr} {z : V} {u : Value} {h' : Heap} {t' : Nat} (I : Inv X pins σ H s) (hr : DicR (bs X) H d o ks as ws) (ha : DicAt (bs X) d o (nk.nks ks) as ws us) (hz : ks.length < sizeLine)
    (hn : nk kd ∉ ks.map nk) (rz : RelV z u) (hm : h'.DictOfH (nestedKind X.prog X.w) d (storedH us (nk kd) a u)) (hs : Heap.SameBut d s.heap h') :
    ∃ o', Inv X pins σ (upd H d (dicO (bs X) d o' (nk.nks (ks ++ [kd])) (as ++ [a]) (ws ++ [z]))) { s with heap := h', toks := t' } := by
  have hl : us.length = ks.length := by rw [← nks_len, ← ha.k, List.length_map]
  rw [storedH_fresh (by rw [ha.k, nks_map]; exact hn)] at hm
  obtain ⟨o', es, ep, h1, h2, h3, h4, _, h6⟩ := hm
  refine ⟨o', d_write I (by rw [hr.at_]; exact True.intro) hs ⟨o', h1⟩ (ext_ok h1 (us := us ++ [(nk kd, a, u)]) ?_)⟩
  refine ⟨ha.low, by rw [List.length_append, hl]; exact hz, ?_, ?_, ?_, h2, ⟨es, ep, h3, h4⟩, h6⟩
  · rw [List.map_append, ha.k, nks_map, nks_map, List.map_append]; rfl
  · rw [List.map_append, ha.a]; rfl
  · rw [List.map_append]
    exact ha.v.append (.cons rz .nil)
theorem set_dicK (hu : X.A.units + 64 < cLine) : PSet X (fun o i v H Q => ∃ (p d : Addr) (ob : Obj) (ks : List D) (as : List Addr) (ws : List V) (kd : D), o = .ref d ∧ i = .ref p ∧ DicR (bs X) H d ob ks as ws ∧ Rep (bs X) H kd (.ref p) ∧ keyB kd = true ∧ nk kd ∉ ks.map nk ∧ ks.length < sizeLine ∧ ∀ o', Q (upd H d (dicO (bs X) d o' (nk.nks (ks ++ [kd])) (as ++ [p]) (ws ++ [v])))) := by
  intro pins s σ H o i v ov iv u Q I ro ri rv h
  obtain ⟨p, d, ob, ks, as, ws, kd, rfl, rfl, hr, rk, hk, hn, hz, q⟩ := h
  cases ro
  cases ri
  obtain ⟨us, ha, hd, hH⟩ := hr.raw I
  refine wpAny_setItem_heap (hsz := ha.size) (room_nest hu) (key_is I rk hk) hH fun h' hm hs => ?_
  obtain ⟨o', I'⟩ := d_newK I hr ha hz hn rv hm hs
  exact ⟨_, I', q o'⟩
theorem reps_snoc {B : Bs} {H : Hp} {ks : List D} {as : List Addr} {kd : D} {a : Addr} (h : Reps B H ks (as.map V.ref)) (r : Rep B H kd (.ref a)) : Reps B H (ks ++ [kd]) ((as ++ [a]).map V.ref) := by
  rw [List.map_append]
  exact h.append (.cons r .nil)
/-- x[e] = v, x a dict of one's own, e a new key -/
theorem gd_setK (n : Nat) {x : Str} {l : Addr} (hu : X.A.units + 64 < cLine) (h0 : ρ[n]? = some (.own l (.dic ks ds))) (hb : PD X ρ b ρ kd) (ok : ks.all keyB = true) (hk : keyB kd = true) (hkt : ∃ zs, kd = .tup zs) (hn : nk kd ∉ ks.map nk) (hz : ks.length < 100000)
    (hN : X.N[n]? = some x := by rfl) (hv : Vis X.env.scope x := by first | exact Or.inl rfl | exact Or.inr (Or.inl rfl) | exact Or.inr (Or.inr rfl)) (hd1 : (x == ("__debug__" : Str)) = false := by decide) (hd2 : (x == ("__classdict__" : Str)) = false := by decide)
    (ha : ∀ v, assign (.Subscript (.Name x p) b pos) X.env v = (do
      let ov ← holding [v] (eval (.Name x p) X.env)
      let iv ← holding [v, ov] (eval b X.env)
      standAt pos
      holding [v, ov, iv] (setItem ov iv v)
      release [v, ov, iv] []) := by intro _; rfl) : GD X (.Subscript (.Name x p) b pos) [] ρ d (ρ.set n (.own l (.dic (ks ++ [kd]) (ds ++ [d])))) := fun _ _ σ Hb H v ev r Q q => by
  refine (pg_sub (pe_var hN hv hd1 hd2) pe_w (set_dicK hu) ha).w ?_
  obtain ⟨e1, _⟩ := ev.own n l _ h0
  refine ⟨.ref l, e1, hb _ _ _ _ _ ev _ fun w Hb1 H1 ev1 x1 r1 => ?_⟩
  obtain ⟨_, _, _, ho, h4, h5⟩ := ev1.own n l _ h0
  obtain ⟨o, as, ws, hr, rd, rfl, rk⟩ := DicR.own ev1.sub h4 h5 ok
  obtain ⟨zs, rfl⟩ := hkt
  obtain ⟨t, vs, rfl, ht, rr⟩ := id r1.tup
  refine ⟨t, l, o, ks, as, ws, _, rfl, rfl, hr, Rep.mono ev1.sub _ _ r1, hk, hn, Nat.lt_of_lt_of_le hz (by decide), fun o' => ?_⟩
  refine q σ Hb1 _ (ev1.mut (o' := .dic (ks ++ [.tup zs]) (ds ++ [d])) h0 ?_) x1 (fun _ _ => rfl) rfl
  exact ⟨o', as ++ [t], ws ++ [v], rfl, by simp [hr.l1], by simp [hr.l2], reps_snoc rk r1, rd.append (.cons (Rep.mono x1 _ _ r) .nil)⟩
/-- len(x), x a dict of one's own -/
theorem cr_lenK : CallR X (.builtin "len") (fun xs H Q => ∃ (d : Addr) (o : Obj) (ks : List D) (as : List Addr) (ws : List V), xs = [.ref d] ∧ DicR (bs X) H d o ks as ws ∧ Q (.int ks.length) H) := by
  intro pins s σ H xs us Q I r h
  obtain ⟨d, o, ks, as, ws, rfl, hr, q⟩ := h
  obtain rfl := Vals.ref1 r
  obtain ⟨us, ha, hd, hH⟩ := hr.raw I
  obtain ⟨es, ep, e1, e2⟩ := ha.data
  have hsz : es.size = ks.length := by rw [size_of_entries e2, ← nks_len, ← ha.k, List.length_map]
  have hz : es.size ≤ sizeLine := by rw [size_of_entries e2]; exact ha.size
  have hT : s.TypeIs (.ref d) "dict" := hH.typeIs
  refine Calls.call_function_entry kind_len plain_len entry_len (args_len1 _) ?_
  unfold Builtin.«len»
  refine wpAny_bind (m := oneArg "len" _) (wpAny_pure ?_)
  refine wpAny_bind (m := callSpecial? (.ref d) (Str.ofString "__len__")) (wpAny_callSpecial?_slot (name := Str.ofString "__len__") hT F.slot_dict_len
    (call_len_raw (es := es) (ep := ep) ha.low ⟨o, hd, ha.ex, e1⟩ ?_))
  show wpAny _ _ _ _ _ { s with toks := s.toks + 1 }
  refine wpAny_bind (wpAny_holding (wpAny_pure ?_))
  refine wpAny_bind (wpAny_letGo ?_)
  have hn := sizeLine_eq
  show wpAny _ _ (if ((es.size : Nat) : Int) < 0 then _ else _) _ _ _
  rw [if_neg (by omega)]
  show wpAny _ _ (if ((es.size : Nat) : Int) ≥ 2 ^ 63 then _ else _) _ _ _
  rw [if_neg (by omega)]
  exact wpAny_bind (wpAny_mkInt (wpAny_pure ⟨_, rfl, .int ks.length, H, I.tok _, ⟨_, by rw [hsz]⟩, q⟩))
theorem pd_lenK (n : Nat) {x : Str} {l : Addr} {p' : Pos} (ml : X.mg "len" = none) (hd : ρ[n]? = some (.own l (.dic ks ds))) (ok : ks.all keyB = true) (hg : Gl X "len" := by rfl)
    (hN : X.N[n]? = some x := by rfl) (hv : Vis X.env.scope x := by first | exact Or.inl rfl | exact Or.inr (Or.inl rfl) | exact Or.inr (Or.inr rfl)) (h1 : (x == ("__debug__" : Str)) = false := by decide) (h2 : (x == ("__classdict__" : Str)) = false := by decide)
    (na : starEach [.Name x p'] X.env = (false, eval (.Name x p') X.env) :: starEach [] X.env := by rfl) : PD X ρ (.Call (.Name "len" p) [.Name x p'] [] pos) ρ (.int ks.length) :=
  fun _ _ _ Hb H ev Q q => (pe_callB cr_lenK hg ml boot_len (pa_cons (pe_var hN hv h1 h2) pa_nil na) (by decide) (by decide) na).w (by
    obtain ⟨e1, _, _, ho, h4, h5⟩ := ev.own n l _ hd
    obtain ⟨o, as, ws, hr, rd, _, _⟩ := DicR.own ev.sub h4 h5 ok
    exact ⟨.ref l, e1, l, o, ks, as, ws, rfl, hr, q _ Hb H ev (Ex.refl _) rep_int⟩)
end
end WL
set_option Elab.async false
set_option linter.all false
set_option maxRecDepth 100000
set_option maxHeartbeats 4000000
namespace WL
open PySem PySem.Spec PyProof.Rows L2 PySem.W
/-! ### for k, v in d.items() -/
def Itx (B : Bs) (d : Addr) (o : Obj) (ns : List NestedKey) (as : List Addr) (ws : List V) : It :=
  ⟨fun i H => H d = some (dicO B d o ns as ws) ∧ i < as.length, fun i H v H' => ∃ T a w, as[i]? = some a ∧ ws[i]? = some w ∧ v = .ref T ∧ H T = none ∧ H' = upd H T (.tup [.ref a, w]), fun i H => H d = some (dicO B d o ns as ws) ∧ as.length ≤ i⟩
section
variable {X : Cx} {pins : List (Addr × Obj)} {σ : L2.St} {H : Hp} {s : Shared}
theorem dic_es {d : Addr} {o : Obj} {ns : List NestedKey} {as : List Addr} {ws : List V} {es : Array DictEntry} {ep : Nat} (I : Inv X pins σ H s) (h : H d = some (dicO (bs X) d o ns as ws)) (hod : o.data = .dict es ep) :
    s.heap.DictRaw d es ep ∧ es.size = as.length ∧ ∀ (i : Nat) (hi : i < es.size), ∃ a w u, as[i]? = some a ∧ ws[i]? = some w ∧ es[i].key = .ref a ∧ es[i].val = u ∧ RelV w u := by
  obtain ⟨⟨hd, us, ha⟩, _, _⟩ := I.hok d _ h
  obtain ⟨es', ep', e1, e2⟩ := ha.data
  rw [hod] at e1
  cases e1
  have hsz : es.size = us.length := size_of_entries e2
  refine ⟨⟨o, hd, ha.ex, hod⟩, by rw [hsz, ← ha.a, List.length_map], fun i hi => ?_⟩
  have hi' : i < us.length := by omega
  have hu : us[i]? = some us[i] := List.getElem?_eq_getElem hi'
  have he : es[i]? = some (entryOfKey (nestedKind X.prog X.w) us[i]) := by
    rw [entry_at e2, hu]; rfl
  have he' : es[i] = entryOfKey (nestedKind X.prog X.w) us[i] := by
    rw [Array.getElem?_eq_getElem hi] at he
    exact Option.some.inj he
  have hv : (us.map (·.2.2))[i]? = some us[i].2.2 := by rw [List.getElem?_map, hu]; rfl
  have hwl : i < ws.length := by rw [ha.v.length, List.length_map]; exact hi'
  obtain ⟨u', q1, q2⟩ := ha.v.get (List.getElem?_eq_getElem hwl)
  rw [hv] at q1
  cases q1
  exact ⟨us[i].2.1, ws[i], us[i].2.2, by rw [← ha.a, List.getElem?_map, hu]; rfl, List.getElem?_eq_getElem hwl, by rw [he']; rfl, by rw [he']; rfl, q2⟩
end
theorem turn_itemsK {P : Program} {w : World} {K : PySem.W.Frag} {elts : List Expr} {kk : Nat} {tpos : Pos} {d : Addr} {o : Obj} {ns : List NestedKey} {as : List Addr} {ws : List V} {es : Array DictEntry} {ep : Nat} (it : Addr) (hod : o.data = .dict es ep) :
    Turn P w K (.Tuple elts kk tpos) (Itx ⟨P, w, K⟩ d o ns as ws) [it] it (fun i h => ∃ ok ov, IsItemIter h it d i es.size ep ok ov) where
  mem := by simp
  obj := fun i h st b hb => by
    have e : b = it := by simpa using hb
    subst e
    obtain ⟨ok, ov, e⟩ := st
    exact ⟨_, e, fun v z => nomatch z⟩
  keep := fun i h h' st k => let ⟨ok, ov, e⟩ := st; ⟨ok, ov, k it (by simp) _ e⟩
  item := by
    intro X hP hw hK hc i pins s σ H E I hf st hg
    subst hP hw hK
    obtain ⟨hd, hi⟩ := hg
    obtain ⟨hr, hsz, hes⟩ := dic_es I hd hod
    obtain ⟨ok, ov, he⟩ := st
    obtain ⟨a, v, u, ea, ev, ek, eu, ru⟩ := hes i (by omega)
    have hlt : it < s.heap.objs.size := Heap.lt_size he
    refine wpAny_pyNext_items_item_raw he hr (by omega) fun h' ho hT hz hk => ?_
    rw [ek, eu] at hT
    refine ⟨_, rfl, wpAny_letOwnedTupleGo_items (s := { s with heap := h' }) ho fun h'' he' sb => ?_⟩
    have hT2 : h''.get? s.heap.objs.size = some { cls := .type "tuple", data := .seq #[.ref a, u] } := (sb.2 _ (Nat.ne_of_gt hlt)).trans hT
    have new : ObjOk X.prog X.w (upd H s.heap.objs.size (.tup [.ref a, v])) h'' s.heap.objs.size (.tup [.ref a, v]) :=
      ⟨by show 2 ≤ sizeLine; decide, [.ref a, u], .cons rfl (.cons ru .nil), ⟨_, hT2, rfl, _, rfl⟩⟩
    have I1 : Inv X pins σ (upd H s.heap.objs.size (.tup [.ref a, v])) { s with heap := h'' } :=
      I.turnedNew (t' := s.toks) (ch := [it]) (fun b ob hb e => (sb.2 b (by simpa using hb)).trans (hk b ob (by simpa using hb) e)) hf (Nat.le_refl _) new
    refine ⟨.ref s.heap.objs.size, _, I1, rfl, ⟨_, a, v, ea, ev, rfl, I.hok.fresh (Nat.le_refl _), rfl⟩, ⟨_, _, he'⟩, fun b hb => ?_⟩
    have e : b = it := by simpa using hb
    rw [e, upd_ne (Nat.ne_of_lt hlt)]
    exact (hf it (by simp)).1
  done := by
    intro X hP hw hK hc i pins s σ H E I hf st hg
    subst hP hw hK
    obtain ⟨hd, hi⟩ := hg
    obtain ⟨f0, f1, f2, f3, f4, f5⟩ := hf it (by simp)
    obtain ⟨hr, hsz, hes⟩ := dic_es I hd hod
    obtain ⟨ok, ov, he⟩ := st
    exact wpAny_pyNext_items_end_raw (I.ok.hd hc) he hr (by omega) fun h' eb => ⟨rfl, I.turned (t' := s.toks) (fun b ob hb e => eb b ob hb e) f0 f1 f3 f4 f5⟩
  self := fun A i s Q E st h => let ⟨_, _, e⟩ := st; PySem.W.kcp_self e h
section
variable {X : Cx} {ρ ρ' ρ1 ρ2 ρ3 ρ4 : List E} {e a b c : Expr} {es : List Expr} {pos p pos' ap apos cpos : Pos} {d x y z r kd vd : D} {ds dd xs ys ks : List D} {i j k : Int} {P : Post} {elts : List Expr} {kk : Nat} {tpos : Pos}
def iItemsK (B : Bs) (td : TE) : TI := fun σ H R => td σ H fun x H1 => ∃ d o ns as ws, x = .ref d ∧ H1 d = some (dicO B d o ns as ws) ∧ R (Itx B d o ns as ws) H1
theorem pi_itemsK {td : TE} (he : PE X e td) (hbase : attributeBase e "items" X.env (eval e X.env) = eval e X.env := by rfl) (hline : (apos.endLine == cpos.line) = true := by rfl) :
    PI X (.Tuple elts kk tpos) (.Call (.Attribute e "items" apos) [] [] cpos) (iItemsK (bs X) td) := by
  refine ⟨fun pins s σ H R I h => ?_⟩
  refine wpAny_Call_method (T := "dict") (id := "dict.items") hbase rfl hline PySem.F.plainAttrs_dict PySem.F.slot_dict_items PySem.F.type_dict_items (thn (he.run pins s σ H _ I h) fun u s1 ⟨x, H1, I1, rx, d, o, ns, as, ws, ex, hd, q⟩ => ?_)
  subst ex
  obtain rfl : u = Value.ref d := rx
  obtain ⟨⟨hdo, us, ha⟩, _, _⟩ := id (I1.hok d _ hd)
  obtain ⟨es, ep, hod, e2⟩ := ha.data
  obtain ⟨hr, hsz, _⟩ := dic_es I1 hd hod
  obtain ⟨x1, x2, x3⟩ := id ha.ex
  have hT : s1.TypeIs (.ref d) "dict" := ⟨o, hdo, by assumption⟩
  refine ⟨hT, fun a ea => ⟨o, by cases ea; exact hdo, by assumption⟩, ?_⟩
  have I2 : Inv X pins σ H1 { s1 with heap := s1.heap.push { cls := .type "dict_items", data := .fields #[.ref d] } } := I1.kept (t' := s1.toks) fun b ob q => Heap.get?_push_of_some _ q
  have fin : wpAny (model X.prog X.w) X.A (pyIter (.ref s1.heap.objs.size)) (PIE X pins σ (.Tuple elts kk tpos) R) X.xe { s1 with heap := s1.heap.push { cls := .type "dict_items", data := .fields #[.ref d] } } := by
    refine wpAny_pyIter_items_raw (d := d) (es := es) (ep := ep) ⟨_, Heap.get?_push_size _ rfl, rfl, rfl⟩ (hr.push _) (pi_one (tk := s1.toks) I2 _ (turn_itemsK _ hod) ⟨.none, .none, ?_⟩ q)
    exact Heap.get?_push_size _ rfl
  show wpAny _ _ (callWith cpos (.builtin "dict.items") [.ref d] [] []) _ X.xe s1
  exact method_meetsIn PySem.F.slot_dict_items PySem.F.entry_dict_items rfl (PySem.evalArgs_none ⟨rfl, hT, PySem.F.args_dict_items_1 _, _, meets_dict_items_raw (prog := X.prog) (w := X.w) d ha.low, ⟨es, ep, hr⟩, fin⟩)
/-- for k, v in d.items() -/
theorem src_itemsK (h : PD X ρ e ρ1 (.dic ks ds)) (hbase : attributeBase e "items" X.env (eval e X.env) = eval e X.env := by rfl) (hline : (apos.endLine == cpos.line) = true := by rfl) :
    Src X (.Tuple elts kk tpos) (.Call (.Attribute e "items" apos) [] [] cpos) ρ ρ1 (zipD ks ds) := ⟨_, pi_itemsK pe_w hbase hline, fun _ _ _ _ _ ev R q => h _ _ _ _ _ ev _ fun v Hb1 H1 e1 x1 r1 => by
  have r1' := r1
  rw [Rep] at r1'
  obtain ⟨d, o, as, ws, rfl, hd, l1, l2, rk, rd⟩ := r1'
  have hl := rd.length
  have zl : (zipD ks ds).length = as.length := by rw [zipD_len]; omega
  refine ⟨d, o, _, as, ws, rfl, e1.sub _ _ hd, q _ Hb1 H1 e1 x1 ⟨fun k Hb H e2 e3 hk => ?_, fun k Hb H e2 e3 hk => ?_, fun k Hb H v H' e2 e3 hy hk => ?_⟩⟩
  · exact ⟨e3 _ _ (e2 _ _ hd), by omega⟩
  · exact ⟨e3 _ _ (e2 _ _ hd), by omega⟩
  · obtain ⟨T, a, w, ha, hw, rfl, hT, rfl⟩ := hy
    obtain ⟨d1, f1, f2⟩ := rk.getV (show (as.map V.ref)[k]? = some (V.ref a) by rw [List.getElem?_map, ha]; rfl)
    obtain ⟨d2, f3, f4⟩ := rd.getV hw
    have g := e2.trans (Ex.new (o := .tup [V.ref a, w]) (e3.free hT))
    exact ⟨_, zipD_get f1 f3, .inr ⟨T, _, hT, rfl, rep_tup (SqT.of upd_same) (.cons (Rep.mono g _ _ f2) (.cons (Rep.mono g _ _ f4) .nil))⟩⟩⟩
/-! ### {}, dict(d) -/
theorem dic_empty {P : Program} {w : World} {K : PySem.W.Frag} {H : Hp} (h : Heap) (hb : sysModules < h.objs.size) : ObjOk P w H (h.push { cls := .type "dict", data := .dict #[] }) h.objs.size (dicO ⟨P, w, K⟩ h.objs.size { cls := .type "dict", data := .dict #[] } [] [] []) :=
  ext_ok (us := []) (Heap.get?_push_size _ rfl) ⟨beq_eq_false_iff_ne.mpr (Ne.symm (Nat.ne_of_lt hb)), Nat.zero_le _, rfl, rfl, .nil, ⟨rfl, rfl, rfl⟩, ⟨#[], 0, rfl, rfl⟩, List.nodup_nil⟩
abbrev emptyO : Obj := { cls := .type "dict", data := .dict #[] }
theorem pe_dicE : PE X (.Dict [] [] pos) (fun _ H Q => ∀ p, H p = none → Q (.ref p) (upd H p (dicO (bs X) p emptyO [] [] []))) := ⟨fun pins s σ H Q I h =>
  wpAny_Dict_empty ⟨.ref s.heap.objs.size, _, I.laid (a := s.heap.objs.size) (t' := s.toks) (fun _ _ q => Heap.get?_push_of_some _ q) (Nat.le_refl _) (dic_empty s.heap I.big), rfl, h _ (I.hok.fresh (Nat.le_refl _))⟩⟩
theorem pl_dicE : PL X ρ (.Dict [] [] pos) ρ (.dic [] []) := fun _ _ _ Hb H ev Q q => pe_dicE.w fun p hp =>
  q p Hb _ _ (ev.newO hp) (Ex.refl _) (ev.sub.free hp) (ev.ex1.free hp) upd_same ⟨emptyO, [], [], by rw [nk.nks], rfl, rfl, .nil, .nil⟩ (ev.notOwn hp)
theorem call_dictH {prog : Program} {w : World} {K : Type} [DecidableEq K] {knd : HeapKind prog w K} {A : Around} {E : Value → Shared → Prop} {s : Shared} (st : knd.Stays) {o : Addr} {more : List (K × Addr × Value)} {Q : Value → Shared → Prop} (hu : knd.room A.in1.in1) (hoS : (o == sysModules) = false) (ho : s.heap.DictOfH knd o more) (hap : (more.map fun x => knd.hash x.1).Nodup) (hsz : more.length ≤ sizeLine)
    (h : ∀ h', h'.DictOfH knd s.heap.objs.size more → Heap.SameBut s.heap.objs.size (s.heap.push { cls := .type "dict", data := .dict #[] }) h' → Q (.ref s.heap.objs.size) { s with heap := h' }) :
    wpAny (model prog w) A (call (.type "dict") [.ref o]) Q E s := by
  refine callType_codes (Q₁ := fun obj s₁ => obj = .ref s.heap.objs.size ∧ s₁ = { s with heap := s.heap.push { cls := .type "dict", data := .dict #[] } }) PySem.F.kt_called_dict (PySem.F.kt_typeCall_dict_1 _) PySem.F.entry_dict_init (kt_code_dict_new _ ⟨rfl, rfl⟩) ?_
  rintro obj s₁ ⟨rfl, rfl⟩
  have hnew : (s.heap.push { cls := .type "dict", data := .dict #[] }).DictOfH knd s.heap.objs.size [] := Heap.DictOfH.new s.heap
  have ho' : (s.heap.push { cls := .type "dict", data := .dict #[] }).DictOfH knd o more := by
    obtain ⟨q, es, ep, h1, h2, h3, h4, h5, h6⟩ := ho
    exact ⟨q, es, ep, Heap.get?_push_of_some _ h1, h2, h3, h4, fun x hx => st.stays (fun b o _ _ e _ => Heap.get?_push_of_some _ e) (h5 x hx), h6⟩
  have hn : (more.map (·.1)).Nodup := ho.nodup
  have hdo : s.heap.objs.size ≠ o := by
    obtain ⟨_, _, _, hg, _⟩ := ho
    exact fun e => absurd (Heap.lt_size hg) (by rw [e]; exact Nat.lt_irrefl _)
  refine ⟨hnew.typeIs, PySem.F.args_dict_init_2 _ _, ?_⟩
  unfold Builtin.«dict.__init__»
  refine wpAny_bind ?_
  unfold Builtin.Dict.selfAndRest
  refine wpAny_bind (wpAny_notOrdered_dict hnew.typeIs ?_)
  show wpAny _ _ (pure (s.heap.objs.size, [Value.ref o])) _ _ _
  refine wpAny_pure ?_
  show wpAny _ _ (Builtin.Dict.updateFrom "dict.__init__" s.heap.objs.size (.ref o) [] .none) _ _ _
  unfold Builtin.Dict.updateFrom
  refine wpAny_bind (wpAny_typeOf ho'.typeIs ?_)
  rw [if_neg (by decide)]
  refine wpAny_bind ?_
  unfold Builtin.Dict.merge
  refine wpAny_bind ?_
  unfold Builtin.Dict.readDirectly
  refine wpAny_bind (wpAny_isInstance ho'.typeIs isSubtype_dict_dict ?_)
  simp only [Bool.not_true, Bool.false_eq_true, if_false]
  refine wpAny_bind (wpAny_specialOf ho'.typeIs PySem.F.slot_dict_iter.lookup (wpAny_pure ?_))
  simp only [beq_self_eq_true, if_true]
  refine wpAny_bind (wpAny_pure ?_)
  refine wpAny_mergeDict_heap (hsz := by simpa using hsz) hu hdo hoS hnew ho' (.inr ⟨keyed_apart (s := { s with heap := _ }) st ho', hap⟩) fun h' hd' _ hs' => ?_
  show wpAny _ _ (Builtin.Dict.addKeywords s.heap.objs.size [] >>= _) _ _ _
  rw [storedAllH_nil_of_nodup more hn] at hd'
  exact wpAny_bind (wpAny_pure (wpAny_pure ⟨rfl, h h' hd' hs'⟩))
theorem cr_dictK (hu : X.A.units + 64 < cLine) : CallR X (.type "dict") (fun xs H Q => ∃ (d : Addr) (o : Obj) (ks : List D) (as : List Addr) (ws : List V), xs = [.ref d] ∧ DicR (bs X) H d o ks as ws ∧ ((nk.nks ks).map fun n => n.hash X.w).Nodup ∧ ∀ p o', H p = none → Q (.ref p) (upd H p (dicO (bs X) p o' (nk.nks ks) as ws))) := by
  intro pins s σ H xs us Q I r h
  obtain ⟨d, o, ks, as, ws, rfl, hr, hn, q⟩ := h
  obtain rfl := Vals.ref1 r
  obtain ⟨us, ha, hd, hH⟩ := hr.raw I
  have hroom : (nestedKind X.prog X.w).room X.A.in1.in1 := by
    show X.A.in1.in1.units + 8 < cLine
    have : X.A.in1.in1.units ≤ X.A.units + 2 := Nat.le_refl _
    omega
  refine call_dictH nestedKind_stays hroom ha.low hH (by rw [← ha.k, List.map_map] at hn; exact hn) ha.size fun h' hm hs => ?_
  have hs' : ∀ b o, s.heap.get? b = some o → h'.get? b = some o := fun b o e => (hs.2 b (Nat.ne_of_lt (Heap.lt_size e))).trans (Heap.get?_push_of_some _ e)
  obtain ⟨o', es, ep, h1, h2, h3, h4, _, h6⟩ := hm
  refine ⟨.ref s.heap.objs.size, _, I.laid (a := s.heap.objs.size) (t' := s.toks) hs' (Nat.le_refl _) (ext_ok h1 ⟨beq_eq_false_iff_ne.mpr (Ne.symm (Nat.ne_of_lt I.big)), ha.size, ha.k, ha.a, ha.v, h2, ⟨es, ep, h3, h4⟩, h6⟩), rfl, q _ o' (I.hok.fresh (Nat.le_refl _))⟩
/-- dict(d): a copy -/
theorem pl_dicC (hu : X.A.units + 64 < cLine) (m : X.mg "dict" = none) (ha : PD X ρ a ρ1 (.dic ks ds)) (ok : ks.all keyB = true) (hh : ∀ w : World, ((ks.map nk).map fun n => n.hash w).Nodup) (hg : Gl X "dict" := by rfl) (na : starEach [a] X.env = (false, eval a X.env) :: starEach [] X.env := by rfl) :
    PL X ρ (.Call (.Name "dict" p) [a] [] pos) ρ1 (.dic ks ds) :=
  pl_cT (cr_dictK hu) m PyProof.Rows.boot_dict (pad_cons ha pad_nil na) (fun _ _ _ Hb H ev vs rs Q q => by
    obtain ⟨v, rfl, r⟩ := rs.one
    obtain ⟨p, o, as, ws, rfl, hr, rd, rk, hp⟩ := DicR.dat ev.sub r ok
    refine ⟨p, o, ks, as, ws, rfl, hr, by rw [nks_map]; exact hh _, fun n o' hn => ?_⟩
    exact q n Hb _ _ (ev.newO hn) (Ex.refl _) (ev.sub.free hn) (ev.ex1.free hn) upd_same ⟨o', as, ws, rfl, hr.l1, hr.l2, rk, rd⟩ (ev.notOwn hn)) hg (by decide) (by decide) na
/-- {k: v} -/
theorem pe_dic1 {tk tv : TE} {ke ve : Expr} (hu : X.A.units + 64 < cLine) (hk : PE X ke tk) (hv : PE X ve tv) : PE X (.Dict [some ke] [ve] pos) (fun σ H Q => ∀ p, H p = none → tk σ (upd H p (dicO (bs X) p emptyO [] [] [])) fun x H1 => tv σ H1 fun y H2 =>
    H2 p = some (dicO (bs X) p emptyO [] [] []) ∧ ∃ kd a, x = .ref a ∧ Rep (bs X) H2 kd x ∧ keyB kd = true ∧ ∀ o', Q (.ref p) (upd H2 p (dicO (bs X) p o' [nk kd] [a] [y]))) := by
  refine ⟨fun pins s σ H Q I q => ?_⟩
  have hn := I.hok.fresh (Nat.le_refl s.heap.objs.size)
  have I1 : Inv X pins σ (upd H s.heap.objs.size (dicO (bs X) s.heap.objs.size emptyO [] [] [])) { s with heap := s.heap.push { cls := .type "dict", data := .dict #[] } } :=
    I.laid (a := s.heap.objs.size) (t' := s.toks) (fun _ _ q => Heap.get?_push_of_some _ q) (Nat.le_refl _) (dic_empty s.heap I.big)
  have q := q _ hn
  rw [arm_eval_Dict]
  have hsh : (evalEachOpt [some ke] X.env).zip ((evalEach [ve] X.env).map fun v => do let x ← v; standAt pos; pure x) = [(eval ke X.env, do let x ← eval ve X.env; standAt pos; pure x)].map fun p => (some p.1, p.2) := rfl
  rw [hsh, dictDisplay_pairs _ (by simp) (by simp)]
  have hroom : (nestedKind X.prog X.w).room X.A := by
    show X.A.units + 8 < cLine
    omega
  refine wpAny_bind (wpAny_standAt (wpAny_bind (wpAny_subDictH (knd := nestedKind X.prog X.w) hroom (by simp) ?_)))
  have hpt : [(eval ke X.env, do let x ← eval ve X.env; standAt pos; pure x)] = pairTrees [some ke] [ve] X.env pos := rfl
  rw [hpt]
  refine pairTrees_cons_walk (thn (hk.run pins _ σ _ _ I1 q) fun u s1 ⟨x, H1, J1, rx, q1⟩ => thn (hv.run pins s1 σ H1 _ J1 q1) fun w2 s2 ⟨y, H2, J2, ry, hp, kd, a, ex, rk, ok, q2⟩ => pairTrees_nil_walk ?_)
  subst ex
  cases rx
  have hr : DicR (bs X) H2 s.heap.objs.size emptyO [] [] [] := ⟨by rw [nk.nks]; exact hp, rfl, rfl, .nil, rfl⟩
  obtain ⟨us, ha, hd, hH⟩ := hr.raw J2
  have hus : us = [] := by
    have := ha.a
    cases us with
    | nil => rfl
    | cons _ _ => cases this
  subst hus
  refine ⟨[(nk kd, a, w2)], ⟨rfl, rfl, key_is J2 rk ok, trivial⟩, hH, fun h' tk hm hs => wpAny_pure ?_⟩
  obtain ⟨o', I'⟩ := d_newK (t' := tk) J2 hr ha (by decide) (by simp) ry hm hs
  rw [nks_map] at I'
  exact ⟨.ref _, _, I', rfl, q2 o'⟩
theorem pl_dic1 {ke ve : Expr} (hu : X.A.units + 64 < cLine) (hk : PD X ρ ke ρ1 kd) (hv : PD X ρ1 ve ρ2 vd) (ok : keyB kd = true) (hkt : ∃ zs, kd = .tup zs) : PL X ρ (.Dict [some ke] [ve] pos) ρ2 (.dic [kd] [vd]) := fun Hb0 H0 σ Hb H ev Q q => by
  refine (pe_dic1 hu pe_w pe_w).w fun p hp => ?_
  have nb : Hb p = none := ev.sub.free hp
  have n0 : H0 p = none := ev.ex1.free hp
  have ev1 := (ev.newO hp (o := dicO (bs X) p emptyO [] [] [])).prot (Ex.refl _) (fun a o h => ev.fr a o h) nb upd_same (ev.notOwn hp)
  refine hk _ _ _ _ _ ev1 _ fun v Hb1 H1 e1 x1 r1 => hv _ _ _ _ _ e1 _ fun y Hb2 H2 e2 x2 r2 => ?_
  obtain ⟨g1, g2, g3⟩ := e2.protOut nb
  obtain ⟨zs, rfl⟩ := hkt
  obtain ⟨t, vs, rfl, ht, rr⟩ := id r1.tup
  have rk := Rep.mono x2 _ _ r1
  refine ⟨g1, _, t, rfl, Rep.mono e2.sub _ _ rk, ok, fun o' => ?_⟩
  have e3 := e2.unprot (ho' := dicO (bs X) p o' [nk (.tup zs)] [t] [y]) nb n0 ev.ex0 (fun a o h => ev.fr a o h)
  exact q p Hb2 _ _ e3 (x1.trans x2) g2 n0 upd_same ⟨o', [t], [y], by rw [nks_map]; rfl, rfl, rfl, .cons rk .nil, .cons r2 .nil⟩ g3
end
end WL
set_option Elab.async false
set_option linter.all false
set_option maxRecDepth 100000
set_option maxHeartbeats 4000000
namespace WL
open PySem PySem.Spec PyProof.Rows L2
section
variable {X : Cx}
/-- {k: v for target in iter if ..}, the keys data, each a new one -/
def tDcK (B : Bs) (wi : TI) (g : TG) (tt : TT) (tk tv : TE) (vs : List Nat) : TE := fun σ H Q => wi σ H fun J H1 => ∀ D, H1 D = none → ∃ W : Nat → Nat → Hp → Prop, (∃ m, W 0 m (upd H1 D (dicO B D emptyO [] [] []))) ∧ ∀ i m H, W i m H →
  (J.stop i H ∧ Q (.ref D) H) ∨ (J.go i H ∧ ∃ Nx : Hp → Prop, (∀ H', Nx H' → ∃ m', m' < m ∧ W (i + 1) m' H') ∧ ∀ x H', J.yld i H x H' → g x (wipe σ vs) H' fun σ2 H2 => wipe σ2 vs = wipe σ vs ∧ tt σ2 H2 fun b H3 =>
    if b = true then tk σ2 H3 fun y H4 => tv σ2 H4 fun z H5 => ∃ (o : Obj) (ks : List WL.D) (as : List Addr) (ws : List V) (kd : WL.D) (a : Addr), y = .ref a ∧ DicR B H5 D o ks as ws ∧ Rep B H5 kd (.ref a) ∧ keyB kd = true ∧ nk kd ∉ ks.map nk ∧ ks.length < sizeLine ∧ ∀ o', Nx (upd H5 D (dicO B D o' (nk.nks (ks ++ [kd])) (as ++ [a]) (ws ++ [z]))) else Nx H3)
theorem dck_core {pins : List (Addr × Obj)} {s : Shared} {σ : L2.St} {H : Hp} {Q : VK} {kx vx tg iter : Expr} {ifs : List Expr} {scope : Scope} {own : List (Str × Nat)} {pos pos' : Pos} {wi : TI} {g : TG} {tt : TT} {tk tv : TE} {use : Option (Value → Sem Unit)} {Qf : Value → Shared → Prop}
    (hc : X.calm = true) (hu : X.A.units + 64 < cLine) (hN : X.N.Nodup) (I : Inv X pins σ H s) (hi : PI X tg iter wi) (ok : BlkOk X.N X.env.scope scope own)
    (hg : ∀ (s : Shared) (H : Hp) (C : Addr) (cl : List (Str × Addr)) (fp : List Addr), PG (X.blk s H scope (compEnvC scope cl C X.env) fp) tg g) (ht : ∀ (s : Shared) (H : Hp) (C : Addr) (cl : List (Str × Addr)) (fp : List Addr), PTs (X.blk s H scope (compEnvC scope cl C X.env) fp) ifs tt)
    (hk : ∀ (s : Shared) (H : Hp) (C : Addr) (cl : List (Str × Addr)) (fp : List Addr), PE (X.blk s H scope (compEnvC scope cl C X.env) fp) kx tk)
    (he : ∀ (s : Shared) (H : Hp) (C : Addr) (cl : List (Str × Addr)) (fp : List Addr), PE (X.blk s H scope (compEnvC scope cl C X.env) fp) vx tv) (hs : ∀ x, foldedSetIterable iter X.env x = pure x)
    (h : tDcK (bs X) wi g tt tk tv (own.map (·.2)) σ H Q)
    (hRR : ∀ D C s' m H', Inv X pins σ H' s' → Q (.ref D) H' → s'.heap.Ns C m → FpOk X pins H' C → compPost (model X.prog X.w) X.A X.xe use Qf (.ref D) C (.ok .next) s') :
    wpAny (model X.prog X.w) X.A (comprehension (.DictComp kx vx [⟨tg, iter, ifs, 0⟩] scope pos) scope X.env pos' newDict false (eval iter X.env) use) Qf X.xe s := by
  have hfree : ∀ y ∈ scope.names, y.2 = .free → ∃ c, X.env.cells.lookup y.1 = some c := fun y hy e => by
    rcases ok.free y hy e with k | k
    · exact I.ok.has _ (.inl k)
    · exact I.ok.has _ (.inr k)
  refine wpAny_comprehension_free (use := use) rfl hs (closure_ok hfree) ok.kind (fun y hy e => by rw [ok.uniq y hy, e])
    (thn (hi.run pins s σ H _ I h) fun xv s1 hx => thn hx fun itv s2 h2 => ?_)
  obtain ⟨it, fp, tn, J, H2, e, I2, T, st2, f2, q⟩ := h2
  subst e
  refine wpAny_newObj_type (newEnv_comp ?_)
  generalize hD : s2.heap.objs.size = D
  have hDn : H2 D = none := I2.hok.fresh (Nat.le_of_eq hD)
  obtain ⟨W, ⟨m0, w0⟩, turn⟩ := q D hDn
  -- the new list
  generalize hs3 : ({ s2 with heap := s2.heap.push { cls := .type "dict", data := .dict #[] } } : Shared) = s3
  have I3 : Inv X pins σ (upd H2 D (dicO (bs X) D emptyO [] [] [])) s3 := by
    rw [← hs3]
    refine I2.laid (t' := s2.toks) (fun b o e => Heap.get?_push_of_some _ e) (Nat.le_of_eq hD) ?_
    rw [← hD]
    exact dic_empty s2.heap I2.big
  have h3 : s3.heap = s2.heap.push { cls := .type "dict", data := .dict #[] } := by rw [← hs3]
  have sz : ∀ b ∈ fp, b < s2.heap.objs.size := fun b hb => by
    obtain ⟨o, e, _⟩ := T.obj _ _ st2 b hb
    exact Heap.lt_size e
  have f3 : ∀ b ∈ fp, FpOk X pins (upd H2 D (dicO (bs X) D emptyO [] [] [])) b ∧ b < s3.heap.objs.size := fun b hb => by
    have hlt := sz b hb
    refine ⟨⟨?_, (f2 b hb).2⟩, by rw [h3, Heap.size_push]; exact Nat.lt_succ_of_lt hlt⟩
    rw [upd_ne (by rw [← hD]; exact Nat.ne_of_lt hlt)]
    exact (f2 b hb).1
  have st3 : tn 0 s3.heap := T.keep _ _ _ st2 fun b _ o e => by rw [h3]; exact Heap.get?_push_of_some _ e
  have I4 := block_start I3 ok hN f3
  have pg := hg s3 (upd H2 D (dicO (bs X) D emptyO [] [] [])) s3.heap.objs.size (cellsFrom (s3.heap.objs.size + 1) scope.names (cloFrom X.env.cells scope.names [])) fp
  have pt := ht s3 (upd H2 D (dicO (bs X) D emptyO [] [] [])) s3.heap.objs.size (cellsFrom (s3.heap.objs.size + 1) scope.names (cloFrom X.env.cells scope.names [])) fp
  have pk := hk s3 (upd H2 D (dicO (bs X) D emptyO [] [] [])) s3.heap.objs.size (cellsFrom (s3.heap.objs.size + 1) scope.names (cloFrom X.env.cells scope.names [])) fp
  have pe := he s3 (upd H2 D (dicO (bs X) D emptyO [] [] [])) s3.heap.objs.size (cellsFrom (s3.heap.objs.size + 1) scope.names (cloFrom X.env.cells scope.names [])) fp
  show codeAny _ _ (.compStart (.DictComp kx vx [⟨tg, iter, ifs, 0⟩] scope pos) 0 (.ref it) (.ref D) (compEnvC scope (cellsFrom (s3.heap.objs.size + 1) scope.names (cloFrom X.env.cells scope.names [])) s3.heap.objs.size X.env)) (compPost (model X.prog X.w) X.A X.xe use Qf (.ref D) s3.heap.objs.size) { s3 with heap := pushCells (s3.heap.push { cls := .type "dict", data := .dict #[] }) scope.names }
  have nfp : ∀ b ∈ fp, (upd H2 D (dicO (bs X) D emptyO [] [] [])) b = none := fun b hb => (f3 b hb).1.1
  generalize hce : compEnvC scope (cellsFrom (s3.heap.objs.size + 1) scope.names (cloFrom X.env.cells scope.names [])) s3.heap.objs.size X.env = ce at I4 pg pt pk pe ⊢
  have cL : ce.locals = s3.heap.objs.size := by subst hce; rfl
  generalize hH3 : upd H2 D (dicO (bs X) D emptyO [] [] []) = H3 at I3 I4 pg pt pk pe w0 nfp f3
  generalize hs4 : ({ s3 with heap := pushCells (s3.heap.push { cls := .type "dict", data := .dict #[] }) scope.names } : Shared) = s4 at I4 ⊢
  have st4 : tn 0 s4.heap := T.keep _ _ _ st3 fun b _ o e => by rw [← hs4]; exact pushCells_keeps _ _ _ _ (Heap.get?_push_of_some _ e)
  have stat : ∀ {σ' : L2.St} {H' : Hp} {s' : Shared}, Inv (X.blk s3 H3 scope ce fp) [] σ' H' s' → (∀ b ∈ fp, H' b = none) → ∀ b ∈ fp, FpOk (X.blk s3 H3 scope ce fp) [] H' b := fun {σ' H' s'} I' hn b hb =>
    ⟨hn b hb, (I'.ok.exf b hb).1, I'.ok.exfs b hb, .inl hb, fun x c e => (I'.ok.exf b hb).2 x c e, fun p hp => absurd (show p ∈ ([] : List (Addr × Obj)) ++ [] from hp) (by simp)⟩
  have loop : codeAny (model X.prog X.w) X.A (.compLoop (.DictComp kx vx [⟨tg, iter, ifs, 0⟩] scope pos) 0 (.ref it) (.ref D) ce) (compPost (model X.prog X.w) X.A X.xe use Qf (.ref D) s3.heap.objs.size) s4 := by
    refine compLoop_anyD (fun n s' => ∃ i H', Inv (X.blk s3 H3 scope ce fp) [] (wipe σ (own.map (·.2))) H' s' ∧ tn i s'.heap ∧ (∀ b ∈ fp, H' b = none) ∧ W i n H') ?_ m0 ⟨0, H3, I4, st4, nfp, w0⟩
    rintro n s5 ⟨i, H5, I5, st5, n5, w5⟩
    rcases turn i n H5 w5 with ⟨stop, qq⟩ | ⟨go, Nx, hNx, step⟩
    · have td := T.done (X.blk s3 H3 scope ce fp) rfl rfl rfl hc i [] s5 _ H5 (fun _ _ => False) I5 (stat I5 n5) st5 stop
      refine thnF td fun r s6 ⟨hr, I6⟩ => ?_
      subst hr
      -- back in the def's context
      have I7 : Inv X pins σ H5 s6 := I3.call' (ch := fp) I6.os I6.base I6.hok I6.bare fun b hb => ⟨(f3 b hb).1.2.2.2.1, (f3 b hb).1.2.1, (f3 b hb).1.2.2.2.2.1, (f3 b hb).1.2.2.2.2.2⟩
      have nC : H5 s3.heap.objs.size = none := by
        have z : H5 ce.locals = none := I6.free
        rw [cL] at z
        exact z
      obtain ⟨m, hn, _⟩ := I6.loc
      have hn : s6.heap.Ns ce.locals m := hn
      rw [cL] at hn
      exact hRR D s3.heap.objs.size s6 m H5 I7 qq hn (I3.fpOk (Nat.le_refl _) nC)
    · have ti := T.item (X.blk s3 H3 scope ce fp) rfl rfl rfl hc i [] s5 _ H5 (fun _ _ => False) I5 (stat I5 n5) st5 go
      refine thnF ti fun r s6 ⟨u, hr, h6⟩ => ?_
      subst hr
      refine thnF h6 fun _ s7 ⟨x, H7, I7, r7, y7, st7, n7⟩ => ?_
      have I7' := I7.pinned (stat I7 n7) (T.obj _ _ st7)
      refine thnF (pg.run _ s7 _ H7 x u _ I7' r7 (step x H7 y7)) fun _ s8 ⟨σ8, H8, I8, hw8, q8⟩ => ?_
      refine thnF (pt.run _ s8 σ8 H8 _ I8 q8) fun b s9 ⟨H9, I9, q9⟩ => ?_
      -- the turn's end
      have fin : ∀ {s' : Shared} {H' : Hp}, Inv (X.blk s3 H3 scope ce fp) ([] ++ pinsAt fp s7.heap) σ8 H' s' → Nx H' → ∃ m, m < n ∧ ∃ i H', Inv (X.blk s3 H3 scope ce fp) [] (wipe σ (own.map (·.2))) H' s' ∧ tn i s'.heap ∧ (∀ b ∈ fp, H' b = none) ∧ W i m H' := fun {s' H'} I' nx => by
        obtain ⟨m', hm, w'⟩ := hNx H' nx
        have pin' : ∀ b ∈ fp, ∀ o, s7.heap.get? b = some o → s'.heap.get? b = some o ∧ H' b = none := fun b hb o e =>
          let z := I'.pin (b, o) (List.mem_append_right _ (List.mem_append_right _ (mem_pinsAt hb e)))
          ⟨z.1, z.2.1⟩
        have hl : (wipe σ (own.map (·.2))).length = σ8.length := by rw [← hw8, wipe_length]
        refine ⟨m', hm, i + 1, H', (I'.unpinned (pins := [])).weak hl (fun j v e => ?_), T.keep _ _ _ st7 fun b hb o e => (pin' b hb o e).1, fun b hb => ?_, w'⟩
        · rw [← hw8] at e
          exact (wipe_some e).1
        · obtain ⟨o, e, _⟩ := T.obj _ _ st7 b hb
          exact (pin' b hb o e).2
      cases b with
      | false =>
        simp only [Bool.false_eq_true, if_false] at q9 ⊢
        exact fin I9 q9
      | true =>
        simp only [if_true] at q9 ⊢
        refine thnF (pk.run _ s9 σ8 H9 _ I9 q9) fun z s10 ⟨yk, H10, I10, r10, q10⟩ => ?_
        refine thnF (pe.run _ s10 σ8 H10 _ I10 q10) fun z2 s11 ⟨yv, H11, I11, r11, o, ks, as, ws, kd, a, ek, hr, rk, hk1, hn1, hz11, nx⟩ => ?_
        subst ek
        cases r10
        obtain ⟨us, ha, hd, hH⟩ := hr.raw (X := X.blk s3 H3 scope ce fp) I11
        have hroom : (nestedKind X.prog X.w).room X.A := by
          show X.A.units + 8 < cLine
          omega
        refine wpAny_dictSet_heap (hsz := ha.size) hroom (key_is (X := X.blk s3 H3 scope ce fp) I11 rk hk1) hH fun h' hm hs' => ?_
        obtain ⟨o', I'⟩ := d_newK (X := X.blk s3 H3 scope ce fp) I11 hr ha hz11 hn1 r11 hm hs'
        exact fin I' (nx o')
  exact codeAny_compStart_dict loop (T.self X.A 0 _ _ _ st4 loop)
/-- as a value -/
theorem pe_dck {kx vx tg iter : Expr} {ifs : List Expr} {scope : Scope} {own : List (Str × Nat)} {pos : Pos} {wi : TI} {g : TG} {tt : TT} {tk tv : TE} (hc : X.calm = true) (hu : X.A.units + 64 < cLine) (hN : X.N.Nodup) (hi : PI X tg iter wi) (ok : BlkOk X.N X.env.scope scope own)
    (hg : ∀ (s : Shared) (H : Hp) (C : Addr) (cl : List (Str × Addr)) (fp : List Addr), PG (X.blk s H scope (compEnvC scope cl C X.env) fp) tg g) (ht : ∀ (s : Shared) (H : Hp) (C : Addr) (cl : List (Str × Addr)) (fp : List Addr), PTs (X.blk s H scope (compEnvC scope cl C X.env) fp) ifs tt)
    (hk : ∀ (s : Shared) (H : Hp) (C : Addr) (cl : List (Str × Addr)) (fp : List Addr), PE (X.blk s H scope (compEnvC scope cl C X.env) fp) kx tk)
    (he : ∀ (s : Shared) (H : Hp) (C : Addr) (cl : List (Str × Addr)) (fp : List Addr), PE (X.blk s H scope (compEnvC scope cl C X.env) fp) vx tv) (hs : ∀ x, foldedSetIterable iter X.env x = pure x := by intro _; rfl) :
    PE X (.DictComp kx vx [⟨tg, iter, ifs, 0⟩] scope pos) (tDcK (bs X) wi g tt tk tv (own.map (·.2))) := by
  refine ⟨fun pins s σ H Q I h => ?_⟩
  rw [arm_eval_DictComp]
  refine dck_core hc hu hN I hi ok hg ht hk he hs h fun D C s' m H' I' q hn f => ⟨m, hn, fun h'' sb => ?_⟩
  obtain ⟨f0, f1, f2, f3, f4, f5⟩ := f
  exact ⟨.ref D, H', I'.turned (t' := s'.toks) (fun b o hb e => (sb.2 b hb).trans e) f0 f1 f3 f4 f5, rfl, q⟩
end
section
variable {X : Cx} {scope : Scope} {ρ ρ' ρ0 ρ1 ρ2 ρ3 ρ4 : List E} {e a b c tg iter kx vx : Expr} {es ifs : List Expr} {pos p pos' : Pos} {d x y z : WL.D} {ds xs ys : List WL.D} {i j k : Int} {P : Post} {vs js : List Nat}
/-- a dict comprehension's derivation and what it gives -/
def DcR (X : Cx) (ρ : List E) (kx vx tg iter : Expr) (scope : Scope) (vs : List Nat) (ρ' : List E) (ks ds : List WL.D) : Prop := ∃ wi, PI X tg iter wi ∧ ∀ Hb0 H0 σ Hb H, EnvS (bs X) Hb0 H0 ρ σ Hb H → ∀ Q : VK,
  (∀ l Hb' H' ho, EnvS (bs X) Hb0 H0 ρ' σ Hb' H' → Ex Hb Hb' → Hb' l = none → H0 l = none → H' l = some ho → ORep (bs X) Hb' l (.dic ks ds) ho → NotOwn ρ' l → Q (.ref l) H') → tDcK (bs X) wi (wgB X scope tg) tYes (weB X scope kx) (weB X scope vx) vs σ H Q
/-- {k: v for tg in iter}: the keys data, all different; nothing else changes -/
theorem dcr_to {vs : List Nat} (hs : Src X tg iter ρ ρ0 xs) (kf f : WL.D → WL.D) (js : List Nat) (hjs : ∀ j ∈ js, j ∈ vs) (hno : ∀ i ∈ vs, ρ0[i]? = some E.no) (hlen : xs.length < 100000)
    (hk : ∀ d ∈ xs, keyB (kf d) = true ∧ ∃ zs, kf d = .tup zs) (hn : ((xs.map kf).map nk).Nodup)
    (turn : ∀ d, d ∈ xs → ∃ ρ1, GDb X scope tg js ρ0 d ρ1 ∧ PDb X scope ρ1 kx ρ1 (kf d) ∧ PDb X scope ρ1 vx ρ1 (f d) ∧ dropE js ρ1 = ρ0) :
    DcR X ρ kx vx tg iter scope vs ρ0 (xs.map kf) (xs.map f) := by
  obtain ⟨wi, hi, q⟩ := hs
  refine ⟨wi, hi, fun Hb0 H0 σ Hb H ev Q qq => q _ _ _ _ _ ev _ fun J Hb1 H1 ev1 x1 okS D hD => ?_⟩
  obtain ⟨go, stop, yld⟩ := okS
  have nb1 : Hb1 D = none := ev1.sub.free hD
  have n0 : H0 D = none := ev1.ex1.free hD
  have f1 : ∀ a o, H0 a = some o → Hb1 a = Hb0 a := ev1.fr
  have toW : ∀ {Hb H}, EnvS (bs X) Hb0 H0 ρ0 σ Hb H → EnvS (bs X) Hb0 H0 ρ0 (wipe σ vs) Hb H := fun {Hb H} e => e.agree (wipe_length _ _) fun i hi => by
    rw [wipe_get, if_neg]
    exact fun z => hi (hno i z.1)
  have ofW : ∀ {Hb H}, EnvS (bs X) Hb0 H0 ρ0 (wipe σ vs) Hb H → EnvS (bs X) Hb0 H0 ρ0 σ Hb H := fun {Hb H} e => e.agree (wipe_length _ _).symm fun i hi => by
    rw [wipe_get, if_neg]
    exact fun z => hi (hno i z.1)
  have okp : ∀ i : Nat, ((xs.take i).map kf).all keyB = true := fun i => by
    rw [List.all_eq_true]
    intro y hy
    obtain ⟨d, hd, rfl⟩ := List.mem_map.mp hy
    exact (hk d (List.mem_of_mem_take hd)).1
  refine ⟨fun i m H' => m = xs.length - i ∧ i ≤ xs.length ∧ ∃ (Hb' : Hp) (o : Obj) (as : List Addr) (ws : List V), EnvS (bs X) Hb0 H0 ρ0 (wipe σ vs) Hb' H' ∧ Ex Hb1 Hb' ∧ Hb' D = none ∧ H' D = some (dicO (bs X) D o (nk.nks ((xs.take i).map kf)) as ws) ∧ as.length = ((xs.take i).map kf).length ∧ ws.length = ((xs.take i).map kf).length ∧ Reps (bs X) Hb' ((xs.take i).map kf) (as.map V.ref) ∧ Reps (bs X) Hb' ((xs.take i).map f) ws ∧ NotOwn ρ0 D,
    ⟨xs.length, by simp, Nat.zero_le _, Hb1, emptyO, [], [], (toW ev1).newO hD, Ex.refl _, nb1, by rw [List.take_zero, List.map_nil, nk.nks]; exact upd_same, by simp, by simp, by simpa using Reps.nil, by simpa using Reps.nil, ev1.notOwn hD⟩, ?_⟩
  rintro i m H' ⟨rfl, hi', Hb', o, as, ws, ev', x', nb', hD', l1, l2, rk, rd, no⟩
  by_cases hlt : i < xs.length
  · have hdi := List.getElem?_eq_getElem hlt
    have htk : xs.take (i + 1) = xs.take i ++ [xs[i]] := by rw [List.take_add_one, hdi]; rfl
    refine .inr ⟨go i Hb' H' x' ev'.sub hlt, fun H2 => ∃ (Hb2 : Hp) (o : Obj) (as : List Addr) (ws : List V), EnvS (bs X) Hb0 H0 ρ0 (wipe σ vs) Hb2 H2 ∧ Ex Hb1 Hb2 ∧ Hb2 D = none ∧ H2 D = some (dicO (bs X) D o (nk.nks ((xs.take (i + 1)).map kf)) as ws) ∧ as.length = ((xs.take (i + 1)).map kf).length ∧ ws.length = ((xs.take (i + 1)).map kf).length ∧ Reps (bs X) Hb2 ((xs.take (i + 1)).map kf) (as.map V.ref) ∧ Reps (bs X) Hb2 ((xs.take (i + 1)).map f) ws ∧ NotOwn ρ0 D,
      fun H2 ⟨Hb2, h⟩ => ⟨_, by omega, rfl, hlt, Hb2, h⟩, fun v H2 hy => ?_⟩
    obtain ⟨d, hd', hh⟩ := yld i Hb' H' v H2 x' ev'.sub hy hlt
    obtain rfl : xs[i] = d := by rw [hdi] at hd'; exact Option.some.inj hd'
    obtain ⟨ρ1, hg, hkx, hvx, hdr⟩ := turn _ (List.mem_of_getElem? hdi)
    obtain ⟨hk1, zs, hkt⟩ := hk _ (List.mem_of_getElem? hdi)
    have done : ∀ Hb2 H2, EnvS (bs X) Hb0 H0 ρ0 (wipe σ vs) Hb2 H2 → Ex Hb' Hb2 → Hb2 D = none → H2 D = some (dicO (bs X) D o (nk.nks ((xs.take i).map kf)) as ws) → Rep (bs X) Hb2 (xs[i]) v →
        wgB X scope tg v (wipe σ vs) H2 fun σ2 H2 => wipe σ2 vs = wipe σ vs ∧ tYes σ2 H2 fun b H3 => if b = true then weB X scope kx σ2 H3 fun y H4 => weB X scope vx σ2 H4 fun z H5 => ∃ (o : Obj) (ks : List WL.D) (as : List Addr) (ws : List V) (kd : WL.D) (a : Addr), y = .ref a ∧ DicR (bs X) H5 D o ks as ws ∧ Rep (bs X) H5 kd (.ref a) ∧ keyB kd = true ∧ nk kd ∉ ks.map nk ∧ ks.length < sizeLine ∧
          ∀ o', (∃ (Hb2 : Hp) (o : Obj) (as1 : List Addr) (ws1 : List V), EnvS (bs X) Hb0 H0 ρ0 (wipe σ vs) Hb2 (upd H5 D (dicO (bs X) D o' (nk.nks (ks ++ [kd])) (as ++ [a]) (ws ++ [z]))) ∧ Ex Hb1 Hb2 ∧ Hb2 D = none ∧ (upd H5 D (dicO (bs X) D o' (nk.nks (ks ++ [kd])) (as ++ [a]) (ws ++ [z]))) D = some (dicO (bs X) D o (nk.nks ((xs.take (i + 1)).map kf)) as1 ws1) ∧ as1.length = ((xs.take (i + 1)).map kf).length ∧ ws1.length = ((xs.take (i + 1)).map kf).length ∧ Reps (bs X) Hb2 ((xs.take (i + 1)).map kf) (as1.map V.ref) ∧ Reps (bs X) Hb2 ((xs.take (i + 1)).map f) ws1 ∧ NotOwn ρ0 D)
          else (∃ (Hb2 : Hp) (o : Obj) (as : List Addr) (ws : List V), EnvS (bs X) Hb0 H0 ρ0 (wipe σ vs) Hb2 H3 ∧ Ex Hb1 Hb2 ∧ Hb2 D = none ∧ H3 D = some (dicO (bs X) D o (nk.nks ((xs.take (i + 1)).map kf)) as ws) ∧ as.length = ((xs.take (i + 1)).map kf).length ∧ ws.length = ((xs.take (i + 1)).map kf).length ∧ Reps (bs X) Hb2 ((xs.take (i + 1)).map kf) (as.map V.ref) ∧ Reps (bs X) Hb2 ((xs.take (i + 1)).map f) ws ∧ NotOwn ρ0 D) := by
      intro Hb2 H2 e2 x2 nb2 hD2 r2
      intro s0 h0 C0 cl0 fp0
      have p2 : EnvS (bs X) Hb1 (upd H0 D (dicO (bs X) D o (nk.nks ((xs.take i).map kf)) as ws)) ρ0 (wipe σ vs) Hb2 H2 := e2.prot (x'.trans x2) f1 nb2 hD2 no
      refine hg s0 h0 C0 cl0 fp0 _ _ _ _ _ v p2 r2 _ fun σ3 Hb3 H3 e3 x3 k3 l3 => ?_
      have hw3 : wipe σ3 vs = wipe σ vs := by
        rw [wipe_eq (σ := wipe σ vs) (fun i hi => k3 i fun z => hi (hjs i z)) l3]
        exact wipe_eq (fun i hi => by rw [wipe_get, if_neg (fun z => hi z.1)]) (wipe_length _ _)
      refine ⟨hw3, ?_⟩
      simp only [tYes, if_true]
      intro s1 h1 C1 cl1 fp1
      refine hkx s1 h1 C1 cl1 fp1 _ _ _ _ _ e3 _ fun y Hb4 H4 e4 x4 r4 => ?_
      intro s2 h2 C2 cl2 fp2
      refine hvx s2 h2 C2 cl2 fp2 _ _ _ _ _ e4 _ fun z Hb5 H5 e5 x5 r5 => ?_
      obtain ⟨g1, g2, g3⟩ := e5.protOut nb1
      rw [hkt] at r4
      obtain ⟨t, us, rfl, ht, rr⟩ := id r4.tup
      rw [← hkt] at r4
      have xx := ((x2.trans x3).trans x4).trans x5
      have rk5 := Reps.mono xx _ _ rk
      have rd5 := Reps.mono xx _ _ rd
      have r45 := Rep.mono x5 _ _ r4
      refine ⟨o, (xs.take i).map kf, as, ws, kf xs[i], t, rfl, ⟨g1, l1, l2, Reps.mono e5.sub _ _ rk5, okp i⟩, Rep.mono e5.sub _ _ r45, hk1, ?_, ?_, fun o' => ?_⟩
      · have hsub : ((xs.take i).map kf).map nk ++ [nk (kf xs[i])] = ((xs.take (i + 1)).map kf).map nk := by rw [htk, List.map_append, List.map_append]; rfl
        have hnn : (((xs.take (i + 1)).map kf).map nk).Nodup := by
          refine List.Nodup.sublist ?_ hn
          exact ((List.take_sublist _ _).map _).map _
        rw [← hsub, List.nodup_append] at hnn
        exact fun z => hnn.2.2 _ z _ (by simp) rfl
      · rw [List.length_map, List.length_take]
        exact Nat.lt_of_lt_of_le (Nat.lt_of_le_of_lt (Nat.min_le_right _ _) hlen) (by decide)
      · have e6 := e5.drops js
        rw [hdr] at e6
        have e7 : EnvS (bs X) Hb1 (upd H0 D (dicO (bs X) D o (nk.nks ((xs.take i).map kf)) as ws)) ρ0 (wipe σ vs) Hb5 H5 := e6.agree (by rw [wipe_length, l3, wipe_length]) fun i' hi' => by
          have hv : i' ∉ vs := fun z => hi' (hno i' z)
          rw [k3 i' fun z => hv (hjs i' z)]
        have hk2 : (xs.take (i + 1)).map kf = (xs.take i).map kf ++ [kf xs[i]] := by rw [htk, List.map_append]; rfl
        have hf2 : (xs.take (i + 1)).map f = (xs.take i).map f ++ [f xs[i]] := by rw [htk, List.map_append]; rfl
        refine ⟨Hb5, o', as ++ [t], ws ++ [z], e7.unprot nb1 n0 ev1.ex0 f1, x'.trans xx, g2, ?_, ?_, ?_, ?_, ?_, (e7.protOut nb1).2.2⟩
        · rw [upd_same, hk2]
        · rw [hk2, List.length_append, List.length_append, l1]; rfl
        · rw [hk2, List.length_append, List.length_append, l2]; rfl
        · rw [hk2]; exact reps_snoc rk5 r45
        · rw [hf2]; exact rd5.append (.cons r5 .nil)
    rcases hh with ⟨rfl, r⟩ | ⟨T, ob, hT, rfl, r⟩
    · exact done Hb' _ ev' (Ex.refl _) nb' hD' r
    · have hTD : D ≠ T := ne_of_none hD' hT
      exact done _ _ (ev'.new hT) (Ex.new (ev'.sub.free hT)) (by rw [upd_ne hTD]; exact nb') (by rw [upd_ne hTD]; exact hD') r
  · have e1 : i = xs.length := by omega
    subst e1
    rw [List.take_length] at hD' l1 l2 rk rd
    exact .inl ⟨stop _ Hb' H' x' ev'.sub (Nat.le_refl _), qq D Hb' H' _ (ofW ev') (x1.trans x') nb' n0 hD' ⟨o, as, ws, rfl, l1, l2, rk, rd⟩ no⟩
theorem pl_dcK {own : List (Str × Nat)} {ks ds : List WL.D} (hu : X.A.units + 64 < cLine) (h : DcR X ρ kx vx tg iter scope (own.map (·.2)) ρ' ks ds) (nd : X.N.Nodup) (ok : blkC X.N X.env.scope scope own = true) (hc : X.calm = true := by rfl) (hs2 : ∀ x, foldedSetIterable iter X.env x = pure x := by intro _; rfl) :
    PL X ρ (.DictComp kx vx [⟨tg, iter, [], 0⟩] scope pos) ρ' (.dic ks ds) := by
  obtain ⟨wi, hi, q⟩ := h
  exact fun Hb0 H0 σ Hb H ev Q qq => (pe_dck hc hu nd hi (blkOk_by ok) (g := wgB X scope tg) (tt := tYes) (tk := weB X scope kx) (tv := weB X scope vx) (fun s H C cl fp => ⟨fun pins s' σ H' v u Q I r hw => hw s H C cl fp pins s' u I r⟩) (fun s H C cl fp => pts_nil)
    (fun s H C cl fp => ⟨fun pins s' σ H' Q I hw => hw s H C cl fp pins s' I⟩) (fun s H C cl fp => ⟨fun pins s' σ H' Q I hw => hw s H C cl fp pins s' I⟩) hs2).w (q _ _ _ _ _ ev _ qq)
/-- y = {k: v for ..} on one line -/
theorem ps_setDcK {i : Nat} {y : Str} {py : Pos} {spos : Pos} {own : List (Str × Nat)} {wi : TI} {g : TG} {tt : TT} {tk tv : TE} (hc : X.calm = true) (hu : X.A.units + 64 < cLine) (hN : X.N.Nodup) (hy : X.N[i]? = some y) (hyl : X.env.scope.names.lookup y = some .local)
    (hsw : swapsWith (.DictComp kx vx [⟨tg, iter, ifs, 0⟩] scope pos) (some (.Name y py)) spos.line X.env = pure true) (hi : PI X tg iter wi) (ok : BlkOk X.N X.env.scope scope own)
    (hg : ∀ (s : Shared) (H : Hp) (C : Addr) (cl : List (Str × Addr)) (fp : List Addr), PG (X.blk s H scope (compEnvC scope cl C X.env) fp) tg g) (ht : ∀ (s : Shared) (H : Hp) (C : Addr) (cl : List (Str × Addr)) (fp : List Addr), PTs (X.blk s H scope (compEnvC scope cl C X.env) fp) ifs tt)
    (hk : ∀ (s : Shared) (H : Hp) (C : Addr) (cl : List (Str × Addr)) (fp : List Addr), PE (X.blk s H scope (compEnvC scope cl C X.env) fp) kx tk)
    (he : ∀ (s : Shared) (H : Hp) (C : Addr) (cl : List (Str × Addr)) (fp : List Addr), PE (X.blk s H scope (compEnvC scope cl C X.env) fp) vx tv) (hs : ∀ x, foldedSetIterable iter X.env x = pure x := by intro _; rfl) :
    PS X (.Assign [.Name y py] (.DictComp kx vx [⟨tg, iter, ifs, 0⟩] scope pos) spos) (tAsg (tDcK (bs X) wi g tt tk tv (own.map (·.2))) (gName i)) := by
  refine ⟨fun pins s σ H D I h => ?_⟩
  rw [exec_Assign_Name_used _ _ _ _ hsw]
  refine wpAny_bind (wpAny_standAt (wpAny_bind ?_))
  show wpAny _ X.A (do let _ ← comprehension (.DictComp kx vx [⟨tg, iter, ifs, 0⟩] scope pos) scope X.env (firstIterPos [⟨tg, iter, ifs, 0⟩] pos) newDict false (eval iter X.env) (some (assign (.Name y py) X.env))) _ _ s
  have h : tDcK (bs X) wi g tt tk tv (own.map (·.2)) σ H (fun x H1 => gName i x σ H1 D.nx) := h
  refine wpAny_bind (thn (dck_core (Qf := fun _ s' => SP X pins D .next s') hc hu hN I hi ok hg ht hk he hs h fun L C s' m H' I' q hn f => ?_) fun _ s' hq => wpAny_pure (wpAny_pure hq))
  show wpAny _ _ (assign (.Name y py) X.env (.ref L)) _ _ _
  refine wpAny_assign_Name (store_ok2 (v := V.ref L) I' hN hy (.inl hyl) rfl (fun s2 I2 ⟨a, sb, ha⟩ => ?_) (.inr hyl))
  obtain ⟨f0, f1, f2, f3, f4, f5⟩ := f
  have haC : C ≠ a := by
    rcases ha with z | z
    · rw [z]; exact f1
    · exact fun e => f4 y a z e.symm
  refine ⟨m, hn.sameBut sb haC, fun h3 sb3 => ?_⟩
  exact ⟨_, H', I2.turned (t' := s2.toks) (fun b o hb e => (sb3.2 b hb).trans e) f0 f1 f3 f4 f5, q⟩
theorem sd_asgDcK {own : List (Str × Nat)} {ks ds : List WL.D} (n : Nat) {yn : Str} {py : Pos} (hu : X.A.units + 64 < cLine) (h : DcR X ρ kx vx tg iter scope (own.map (·.2)) ρ1 ks ds) (q : ∀ l, P.nx (ρ1.set n (.own l (.dic ks ds)))) (nd : X.N.Nodup) (ok : blkC X.N X.env.scope scope own = true)
    (hsw : swapsWith (.DictComp kx vx [⟨tg, iter, [], 0⟩] scope pos) (some (.Name yn py)) pos'.line X.env = pure true) (hy : X.N[n]? = some yn := by rfl) (hyl : X.env.scope.names.lookup yn = some .local := by rfl) (hc : X.calm = true := by rfl)
    (hs : ∀ x, foldedSetIterable iter X.env x = pure x := by intro _; rfl) : SD X ρ (.Assign [.Name yn py] (.DictComp kx vx [⟨tg, iter, [], 0⟩] scope pos) pos') P := by
  obtain ⟨wi, hi, qr⟩ := h
  exact fun Hb0 H0 σ Hb H ev => (ps_setDcK hc hu nd hy hyl hsw hi (blkOk_by ok) (g := wgB X scope tg) (tt := tYes) (tk := weB X scope kx) (tv := weB X scope vx) (fun s H C cl fp => ⟨fun pins s' σ H' v u Q I r hw => hw s H C cl fp pins s' u I r⟩) (fun s H C cl fp => pts_nil)
    (fun s H C cl fp => ⟨fun pins s' σ H' Q I hw => hw s H C cl fp pins s' I⟩) (fun s H C cl fp => ⟨fun pins s' σ H' Q I hw => hw s H C cl fp pins s' I⟩) hs).w
    (qr _ _ _ _ _ ev _ fun l Hb' H' ho e' x' nb n0 hl r no => ⟨_, Hb', e'.seto nb n0 hl r (no.set n), q l⟩)
theorem swD_true {kx vx : Expr} {gs : List Comprehension} {scope : Scope} {pos py : Pos} {y : Str} {l : Nat} {env : Env} (hk : env.scope.kind = .function) (hy : env.scope.names.lookup y = some .local) (hl : (py.line == pos.line) = true)
    (ha : (scope.names.any fun (n, k) => n == y && (k == .local || k == .cell)) = false) : swapsWith (.DictComp kx vx gs scope pos) (some (.Name y py)) l env = pure true := by
  have ky : env.kindOf y = some .local := hy
  have hb : env.blockKind = .function := by unfold Env.blockKind; rw [hk]; rfl
  unfold swapsWith
  simp only [hb, ky, ha, Expr.pos, hl]
  rfl
end
end WL
set_option Elab.async false
set_option linter.all false
set_option maxRecDepth 100000
set_option maxHeartbeats 4000000
namespace WL
open PySem PySem.Spec PyProof.Rows L2
/-! ### sorted, each once -/
def insI (x : Int) : List Int → List Int
  | [] => [x]
  | y :: ys => if x < y then x :: y :: ys else if x = y then y :: ys else y :: insI x ys
def normI (is : List Int) : List Int := is.foldr insI []
theorem mem_insI {x z : Int} : ∀ {ys : List Int}, z ∈ insI x ys ↔ z = x ∨ z ∈ ys
  | [] => by simp [insI]
  | y :: ys => by
    unfold insI
    split
    · simp
    · split
      · rename_i h; subst h; simp
      · simp only [List.mem_cons, mem_insI (ys := ys)]
        constructor
        · rintro (h | h | h)
          · exact .inr (.inl h)
          · exact .inl h
          · exact .inr (.inr h)
        · rintro (h | h | h)
          · exact .inr (.inl h)
          · exact .inl h
          · exact .inr (.inr h)
theorem mem_normI {z : Int} : ∀ {is : List Int}, z ∈ normI is ↔ z ∈ is
  | [] => Iff.rfl
  | i :: is => by
    show z ∈ insI i (normI is) ↔ _
    rw [mem_insI, mem_normI (is := is), List.mem_cons]
theorem insI_sorted {x : Int} : ∀ {ys : List Int}, ys.Pairwise (· < ·) → (insI x ys).Pairwise (· < ·)
  | [], _ => List.pairwise_singleton _ _
  | y :: ys, h => by
    have h' := List.pairwise_cons.mp h
    unfold insI
    split
    · rename_i hx
      refine List.pairwise_cons.mpr ⟨fun z hz => ?_, h⟩
      rcases List.mem_cons.mp hz with rfl | hz
      · exact hx
      · have := h'.1 z hz; omega
    · split
      · exact h
      · refine List.pairwise_cons.mpr ⟨fun z hz => ?_, insI_sorted h'.2⟩
        rcases mem_insI.mp hz with rfl | hz
        · omega
        · exact h'.1 z hz
theorem normI_sorted : ∀ is : List Int, (normI is).Pairwise (· < ·)
  | [] => .nil
  | i :: is => insI_sorted (normI_sorted is)
theorem sorted_ext : ∀ {xs ys : List Int}, xs.Pairwise (· < ·) → ys.Pairwise (· < ·) → (∀ z, z ∈ xs ↔ z ∈ ys) → xs = ys
  | [], [], _, _, _ => rfl
  | [], y :: ys, _, _, h => by have := (h y).mpr (by simp); simp at this
  | x :: xs, [], _, _, h => by have := (h x).mp (by simp); simp at this
  | x :: xs, y :: ys, h1, h2, h => by
    have a := List.pairwise_cons.mp h1
    have b := List.pairwise_cons.mp h2
    have e : x = y := by
      have q1 := (h x).mp (by simp)
      have q2 := (h y).mpr (by simp)
      rcases List.mem_cons.mp q1 with q1 | q1
      · exact q1
      · rcases List.mem_cons.mp q2 with q2 | q2
        · exact q2.symm
        · have := a.1 y q2; have := b.1 x q1; omega
    subst e
    rw [sorted_ext a.2 b.2 fun z => ?_]
    constructor
    · intro hz
      rcases List.mem_cons.mp ((h z).mp (List.mem_cons_of_mem _ hz)) with q | q
      · have := a.1 z hz; omega
      · exact q
    · intro hz
      rcases List.mem_cons.mp ((h z).mpr (List.mem_cons_of_mem _ hz)) with q | q
      · have := b.1 z hz; omega
      · exact q
theorem normI_id {is : List Int} (h : is.Pairwise (· < ·)) : normI is = is := sorted_ext (normI_sorted is) h fun _ => mem_normI
def ddI (is : List Int) : List Int := is.foldl (fun acc x => if x ∈ acc then acc else acc ++ [x]) []
theorem ddI_snoc (is : List Int) (x : Int) : ddI (is ++ [x]) = if x ∈ ddI is then ddI is else ddI is ++ [x] := by
  unfold ddI
  rw [List.foldl_append]; rfl
theorem ddI_spec (is : List Int) : (ddI is).Nodup ∧ ∀ z, z ∈ ddI is ↔ z ∈ is := by
  have gen : ∀ n : Nat, (ddI (is.take n)).Nodup ∧ ∀ z, z ∈ ddI (is.take n) ↔ z ∈ is.take n := fun n => by
    induction n with
    | zero => rw [List.take_zero]; exact ⟨List.nodup_nil, fun z => Iff.rfl⟩
    | succ n ih =>
      rw [List.take_add_one]
      cases h : is[n]? with
      | none => simpa using ih
      | some x =>
        show (ddI (is.take n ++ [x])).Nodup ∧ ∀ z, z ∈ ddI (is.take n ++ [x]) ↔ z ∈ is.take n ++ [x]
        rw [ddI_snoc]
        by_cases hx : x ∈ ddI (is.take n)
        · rw [if_pos hx]
          refine ⟨ih.1, fun z => ?_⟩
          rw [ih.2, List.mem_append, List.mem_singleton]
          constructor
          · exact .inl
          · rintro (q | q)
            · exact q
            · rw [q]; exact (ih.2 x).mp hx
        · rw [if_neg hx]
          refine ⟨?_, fun z => by rw [List.mem_append, List.mem_append, ih.2]⟩
          rw [List.nodup_append]
          refine ⟨ih.1, by simp, fun a ha b hb => ?_⟩
          rw [List.mem_singleton.mp hb]
          intro e
          rw [e] at ha
          exact hx ha
  have := gen is.length
  rwa [List.take_length] at this
theorem sorted_dd {is ys : List Int} (hp : ys.Perm (ddI is)) (hs : ys.Pairwise (· ≤ ·)) : ys = normI is := by
  obtain ⟨nd, mm⟩ := ddI_spec is
  have nd' : ys.Nodup := hp.nodup_iff.mpr nd
  refine sorted_ext ?_ (normI_sorted is) fun z => by rw [hp.mem_iff, mm, mem_normI]
  have := List.pairwise_and_iff.mpr ⟨hs, nd'⟩
  exact this.imp fun {a b} ⟨h1, h2⟩ => by omega
theorem keys_putK (kvs : List (Key × V)) (k : Int) (v : V) {ks : List Int} (h : kvs.map (·.1) = ks.map Sum.inl) : (putK kvs (Sum.inl k : Key) v).map (·.1) = (if k ∈ ks then ks else ks ++ [k]).map Sum.inl := by
  unfold putK
  have hany : (kvs.any fun kv => decide (kv.1 = (Sum.inl k : Key))) = decide (k ∈ ks) := by
    have h1 : (kvs.any fun kv => decide (kv.1 = (Sum.inl k : Key))) = (kvs.map (·.1)).any (fun y => decide (y = (Sum.inl k : Key))) := by rw [List.any_map]; rfl
    rw [h1, h, List.any_map]
    by_cases hk : k ∈ ks
    · rw [decide_eq_true hk, List.any_eq_true]
      exact ⟨k, hk, by simp⟩
    · rw [decide_eq_false hk, List.any_eq_false]
      intro y hy
      simp only [Function.comp, decide_eq_true_eq]
      intro e
      exact hk ((Sum.inl.inj e) ▸ hy)
  rw [hany]
  by_cases hk : k ∈ ks
  · rw [decide_eq_true hk, if_pos rfl, if_pos hk, ← h, List.map_map]
    apply List.map_congr_left
    intro kv _
    simp only [Function.comp]
    split <;> rfl
  · rw [decide_eq_false hk, if_neg Bool.false_ne_true, if_neg hk, List.map_append, List.map_append, h]; rfl
section
variable {X : Cx} {scope : Scope} {ρ ρ' ρ0 ρ1 ρ2 ρ3 ρ4 : List E} {e a b c tg iter kx vx : Expr} {es ifs : List Expr} {pos p pos' : Pos} {d x y z : WL.D} {ds xs ys : List WL.D} {i j k : Int} {P : Post} {vs js : List Nat}
/-- sorted({tg: v for tg in iter}) of whole numbers -/
theorem pl_sortK {own : List (Str × Nat)} {is : List Int} (ms : X.mg "sorted" = none) (hs : Src X tg iter ρ ρ0 (is.map WL.D.int)) (js : List Nat) (hjs : ∀ j ∈ js, j ∈ own.map (·.2)) (hno : ∀ i ∈ own.map (·.2), ρ0[i]? = some E.no) (hlen : is.length < 64)
    (turn : ∀ i ∈ is, ∃ ρ1 yv, GDb X scope tg js ρ0 (.int i) ρ1 ∧ PDb X scope ρ1 kx ρ1 (.int i) ∧ PDb X scope ρ1 vx ρ1 yv ∧ dropE js ρ1 = ρ0)
    (nd : X.N.Nodup) (ok : blkC X.N X.env.scope scope own = true) (hc : X.calm = true := by rfl) (hs2 : ∀ x, foldedSetIterable iter X.env x = pure x := by intro _; rfl) (hg : Gl X "sorted" := by rfl)
    (na : starEach [.DictComp kx vx [⟨tg, iter, [], 0⟩] scope pos] X.env = (false, eval (.DictComp kx vx [⟨tg, iter, [], 0⟩] scope pos) X.env) :: starEach [] X.env := by rfl) :
    PL X ρ (.Call (.Name "sorted" p) [.DictComp kx vx [⟨tg, iter, [], 0⟩] scope pos] [] pos') ρ0 (.lst ((normI is).map WL.D.int)) := by
  obtain ⟨wi, hi, q⟩ := hs
  refine fun Hb0 H0 σ Hb H ev Q qq => (pe_callB (call_sortedDI hc) hg ms PyProof.Rows.boot_sorted (pa_cons (pe_dc hc nd hi (blkOk_by ok) (g := wgB X scope tg) (tt := tYes) (tk := weB X scope kx) (tv := weB X scope vx) (fun s H C cl fp => ⟨fun pins s' σ H' v u Q I r hw => hw s H C cl fp pins s' u I r⟩) (fun s H C cl fp => pts_nil)
    (fun s H C cl fp => ⟨fun pins s' σ H' Q I hw => hw s H C cl fp pins s' I⟩) (fun s H C cl fp => ⟨fun pins s' σ H' Q I hw => hw s H C cl fp pins s' I⟩) hs2) pa_nil na) (by decide) (by decide) na).w (q _ _ _ _ _ ev _ fun J Hb1 H1 ev1 x1 okS D hD => ?_)
  obtain ⟨go, stop, yld⟩ := okS
  rw [List.length_map] at go stop yld
  generalize hvs : own.map (·.2) = vs at hno hjs ⊢
  have nb1 : Hb1 D = none := ev1.sub.free hD
  have n0 : H0 D = none := ev1.ex1.free hD
  have f1 : ∀ a o, H0 a = some o → Hb1 a = Hb0 a := ev1.fr
  have toW : ∀ {Hb H}, EnvS (bs X) Hb0 H0 ρ0 σ Hb H → EnvS (bs X) Hb0 H0 ρ0 (wipe σ vs) Hb H := fun {Hb H} e => e.agree (wipe_length _ _) fun i hi => by
    rw [wipe_get, if_neg]
    exact fun z => hi (hno i z.1)
  have ofW : ∀ {Hb H}, EnvS (bs X) Hb0 H0 ρ0 (wipe σ vs) Hb H → EnvS (bs X) Hb0 H0 ρ0 σ Hb H := fun {Hb H} e => e.agree (wipe_length _ _).symm fun i hi => by
    rw [wipe_get, if_neg]
    exact fun z => hi (hno i z.1)
  let Inv1 : Nat → Hp → Prop := fun i H' => ∃ (Hb' : Hp) (kvs : List (Key × V)), EnvS (bs X) Hb0 H0 ρ0 (wipe σ vs) Hb' H' ∧ Ex Hb1 Hb' ∧ Hb' D = none ∧ H' D = some (.dK kvs) ∧ kvs.map (·.1) = (ddI (is.take i)).map Sum.inl ∧ kvs.length ≤ i ∧ NotOwn ρ0 D
  refine ⟨fun i m H' => m = is.length - i ∧ i ≤ is.length ∧ Inv1 i H',
    ⟨is.length, by simp, Nat.zero_le _, Hb1, [], (toW ev1).newO hD, Ex.refl _, nb1, upd_same, rfl, Nat.zero_le _, ev1.notOwn hD⟩, ?_⟩
  rintro i m H' ⟨rfl, hi', Hb', kvs, ev', x', nb', hD', hk, hz, no⟩
  by_cases hlt : i < is.length
  · have hdi := List.getElem?_eq_getElem hlt
    have htk : is.take (i + 1) = is.take i ++ [is[i]] := by rw [List.take_add_one, hdi]; rfl
    refine .inr ⟨go i Hb' H' x' ev'.sub hlt, Inv1 (i + 1), fun H2 h => ⟨_, by omega, rfl, hlt, h⟩, fun v H2 hy => ?_⟩
    obtain ⟨d, hd', hh⟩ := yld i Hb' H' v H2 x' ev'.sub hy hlt
    rw [List.getElem?_map, hdi] at hd'
    cases hd'
    obtain ⟨ρ1, yv, hg, hkx, hvx, hdr⟩ := turn _ (List.mem_of_getElem? hdi)
    have done : ∀ Hb2 H2, EnvS (bs X) Hb0 H0 ρ0 (wipe σ vs) Hb2 H2 → Ex Hb' Hb2 → Hb2 D = none → H2 D = some (.dK kvs) → Rep (bs X) Hb2 (.int is[i]) v →
        wgB X scope tg v (wipe σ vs) H2 fun σ2 H2 => wipe σ2 vs = wipe σ vs ∧ tYes σ2 H2 fun b H3 => if b = true then weB X scope kx σ2 H3 fun y H4 => weB X scope vx σ2 H4 fun z H5 => ∃ kvs k, y = kV k ∧ H5 D = some (.dK kvs) ∧ kvs.length < sizeLine ∧ Inv1 (i + 1) (upd H5 D (.dK (putK kvs k z))) else Inv1 (i + 1) H3 := by
      intro Hb2 H2 e2 x2 nb2 hD2 r2
      intro s0 h0 C0 cl0 fp0
      have p2 : EnvS (bs X) Hb1 (upd H0 D (.dK kvs)) ρ0 (wipe σ vs) Hb2 H2 := e2.prot (x'.trans x2) f1 nb2 hD2 no
      refine hg s0 h0 C0 cl0 fp0 _ _ _ _ _ v p2 r2 _ fun σ3 Hb3 H3 e3 x3 k3 l3 => ?_
      have hw3 : wipe σ3 vs = wipe σ vs := by
        rw [wipe_eq (σ := wipe σ vs) (fun i hi => k3 i fun z => hi (hjs i z)) l3]
        exact wipe_eq (fun i hi => by rw [wipe_get, if_neg (fun z => hi z.1)]) (wipe_length _ _)
      refine ⟨hw3, ?_⟩
      simp only [tYes, if_true]
      intro s1 h1 C1 cl1 fp1
      refine hkx s1 h1 C1 cl1 fp1 _ _ _ _ _ e3 _ fun y Hb4 H4 e4 x4 r4 => ?_
      intro s2 h2 C2 cl2 fp2
      refine hvx s2 h2 C2 cl2 fp2 _ _ _ _ _ e4 _ fun z Hb5 H5 e5 x5 r5 => ?_
      obtain ⟨g1, g2, g3⟩ := e5.protOut nb1
      obtain rfl := r4.int
      have hlk := length_putK kvs (Sum.inl is[i] : Key) z
      refine ⟨kvs, Sum.inl is[i], rfl, g1, Nat.lt_of_lt_of_le (show kvs.length < 64 by omega) (by decide), ?_⟩
      have e6 := e5.drops js
      rw [hdr] at e6
      have e7 : EnvS (bs X) Hb1 (upd H0 D (.dK kvs)) ρ0 (wipe σ vs) Hb5 H5 := e6.agree (by rw [wipe_length, l3, wipe_length]) fun i' hi' => by
        have hv : i' ∉ vs := fun z => hi' (hno i' z)
        rw [k3 i' fun z => hv (hjs i' z)]
      refine ⟨Hb5, _, e7.unprot nb1 n0 ev1.ex0 f1, x'.trans (((x2.trans x3).trans x4).trans x5), g2, upd_same, ?_, by omega, (e7.protOut nb1).2.2⟩
      rw [keys_putK kvs _ z hk, htk, ddI_snoc]
    rcases hh with ⟨rfl, r⟩ | ⟨T, ob, hT, rfl, r⟩
    · exact done Hb' _ ev' (Ex.refl _) nb' hD' r
    · have hTD : D ≠ T := ne_of_none hD' hT
      exact done _ _ (ev'.new hT) (Ex.new (ev'.sub.free hT)) (by rw [upd_ne hTD]; exact nb') (by rw [upd_ne hTD]; exact hD') r
  · have e1 : i = is.length := by omega
    subst e1
    rw [List.take_length] at hk
    refine .inl ⟨stop _ Hb' H' x' ev'.sub (Nat.le_refl _), D, kvs, ddI is, rfl, .inl hD', hk, ?_, fun ys p hp hsrt hn => ?_⟩
    · have : (ddI is).length = kvs.length := by
        have := congrArg List.length hk
        simpa using this.symm
      omega
    · rw [sorted_dd hp hsrt]
      have ev2 := ofW ev'
      exact qq p Hb' _ _ (ev2.newO hn) (x1.trans x') (ev2.sub.free hn) (ev2.ex1.free hn) upd_same ⟨_, rfl, Reps.of_ints⟩ (ev2.notOwn hn)
end
end WL
set_option Elab.async false
set_option maxHeartbeats 4000000
namespace WL
/-- q is a whole number of D-ths, between -M and M -/
def Bd (D M : Nat) (q : Rat) : Prop := (∃ z : Int, q * (D : Rat) = (z : Rat)) ∧ -(M : Rat) ≤ q ∧ q ≤ (M : Rat)
theorem natCast_pos {D : Nat} (h : 0 < D) : (0 : Rat) < (D : Rat) := by exact_mod_cast h
theorem den_dvd {D : Nat} {q : Rat} (h0 : 0 < D) (h : ∃ z : Int, q * (D : Rat) = (z : Rat)) : q.den ∣ D := by
  obtain ⟨z, h⟩ := h
  have hD : (D : Rat) ≠ 0 := Rat.ne_of_gt (natCast_pos h0)
  have e : q = mkRat z D := by
    rw [Rat.mkRat_eq_div, ← h]
    rw [Rat.mul_div_cancel hD]
  rw [e, Rat.den_mkRat, if_neg (by omega)]
  exact Nat.div_dvd_of_dvd (Nat.gcd_dvd_left _ _)
theorem Bd.den {D M : Nat} {q : Rat} (h : Bd D M q) (h0 : 0 < D) : q.den ≤ D := Nat.le_of_dvd h0 (den_dvd h0 h.1)
theorem Bd.num {D M : Nat} {q : Rat} (h : Bd D M q) : q.num.natAbs ≤ M * q.den := by
  obtain ⟨_, h1, h2⟩ := h
  have hd : (0 : Rat) < (q.den : Rat) := natCast_pos q.den_pos
  have a1 : (q.num : Rat) = q * q.den := by
    have e : q = (q.num : Rat) / (q.den : Rat) := by rw [← Rat.mkRat_eq_div, Rat.mkRat_self]
    have e2 : (q.num : Rat) / (q.den : Rat) * q.den = q.num := Rat.div_mul_cancel (Rat.ne_of_gt hd)
    rw [← e] at e2
    exact e2.symm
  have b1 : (q.num : Rat) ≤ (M : Rat) * q.den := by rw [a1]; exact Rat.mul_le_mul_of_nonneg_right h2 (Rat.le_of_lt hd)
  have b2 : -(M : Rat) * q.den ≤ (q.num : Rat) := by rw [a1]; exact Rat.mul_le_mul_of_nonneg_right h1 (Rat.le_of_lt hd)
  have c1 : q.num ≤ ((M * q.den : Nat) : Int) := by exact_mod_cast (show (q.num : Rat) ≤ ((M * q.den : Nat) : Rat) by push_cast; exact b1)
  have c2 : -((M * q.den : Nat) : Int) ≤ q.num := by
    have : ((-((M * q.den : Nat) : Int) : Int) : Rat) ≤ (q.num : Rat) := by push_cast; grind
    exact_mod_cast this
  omega
theorem Bd.sm {D M : Nat} {q : Rat} (h : Bd D M q) (h0 : 0 < D) (h1 : D < 2 ^ 4400) (h2 : M * D < 2 ^ 400000) : Sm q :=
  ⟨Nat.lt_of_le_of_lt h.num (Nat.lt_of_le_of_lt (Nat.mul_le_mul_left M (h.den h0)) h2), Nat.lt_of_le_of_lt (h.den h0) h1⟩
theorem Bd.mono {D M M' : Nat} {q : Rat} (h : Bd D M q) (k : M ≤ M') : Bd D M' q := by
  obtain ⟨a, b, c⟩ := h
  have : (M : Rat) ≤ (M' : Rat) := by exact_mod_cast k
  exact ⟨a, by grind, by grind⟩
theorem Bd.wide {D E M : Nat} {q : Rat} (h : Bd D M q) : Bd (D * E) M q := by
  obtain ⟨⟨z, a⟩, b, c⟩ := h
  refine ⟨⟨z * E, ?_⟩, b, c⟩
  push_cast
  rw [← a, Rat.mul_assoc]
theorem Bd.add {D M M' : Nat} {a b : Rat} (h : Bd D M a) (k : Bd D M' b) : Bd D (M + M') (a + b) := by
  obtain ⟨⟨z, a1⟩, a2, a3⟩ := h
  obtain ⟨⟨y, b1⟩, b2, b3⟩ := k
  refine ⟨⟨z + y, ?_⟩, ?_, ?_⟩
  · push_cast; rw [← a1, ← b1]; grind
  · push_cast; grind
  · push_cast; grind
theorem Bd.neg {D M : Nat} {a : Rat} (h : Bd D M a) : Bd D M (-a) := by
  obtain ⟨⟨z, a1⟩, a2, a3⟩ := h
  refine ⟨⟨-z, ?_⟩, by grind, by grind⟩
  push_cast; rw [← a1]; grind
theorem Bd.sub {D M M' : Nat} {a b : Rat} (h : Bd D M a) (k : Bd D M' b) : Bd D (M + M') (a - b) := by
  rw [Rat.sub_eq_add_neg]; exact h.add k.neg
theorem abs_mul_le {M M' a b : Rat} (a2 : -M ≤ a) (a3 : a ≤ M) (b2 : -M' ≤ b) (b3 : b ≤ M') : -(M * M') ≤ a * b ∧ a * b ≤ M * M' := by
  have hM : 0 ≤ M := by grind
  have hM' : 0 ≤ M' := by grind
  have p1 : 0 ≤ (M - a) * (M' + b) := Rat.mul_nonneg (by grind) (by grind)
  have p2 : 0 ≤ (M + a) * (M' - b) := Rat.mul_nonneg (by grind) (by grind)
  have p3 : 0 ≤ (M - a) * (M' - b) := Rat.mul_nonneg (by grind) (by grind)
  have p4 : 0 ≤ (M + a) * (M' + b) := Rat.mul_nonneg (by grind) (by grind)
  constructor
  · have e : (M - a) * (M' - b) + (M + a) * (M' + b) = 2 * (M * M') + 2 * (a * b) := by grind
    grind
  · have e : (M - a) * (M' + b) + (M + a) * (M' - b) = 2 * (M * M') - 2 * (a * b) := by grind
    grind
theorem Bd.mul {D D' M M' : Nat} {a b : Rat} (h : Bd D M a) (k : Bd D' M' b) : Bd (D * D') (M * M') (a * b) := by
  obtain ⟨⟨z, a1⟩, a2, a3⟩ := h
  obtain ⟨⟨y, b1⟩, b2, b3⟩ := k
  obtain ⟨c1, c2⟩ := abs_mul_le a2 a3 b2 b3
  refine ⟨⟨z * y, ?_⟩, ?_, ?_⟩
  · push_cast; rw [← a1, ← b1]; grind
  · push_cast; exact c1
  · push_cast; exact c2
theorem bd_int {i : Int} {M : Nat} (h : i.natAbs ≤ M) : Bd 1 M (i : Rat) := by
  refine ⟨⟨i, by simp⟩, ?_, ?_⟩
  · have : (-(M : Int)) ≤ i := by omega
    have : ((-(M : Int) : Int) : Rat) ≤ (i : Rat) := by exact_mod_cast this
    push_cast at this; exact this
  · have : i ≤ (M : Int) := by omega
    have : (i : Rat) ≤ ((M : Int) : Rat) := by exact_mod_cast this
    rw [Rat.intCast_natCast] at this; exact this
/-- a share a / b with 0 <= a <= b -/
theorem bd_frac {a b : Int} (h0 : 0 ≤ a) (h1 : a ≤ b) (hb : 0 < b) : Bd b.toNat 1 ((a : Rat) / (b : Rat)) := by
  have hb' : (0 : Rat) < (b : Rat) := by exact_mod_cast hb
  have hbn : ((b.toNat : Nat) : Rat) = (b : Rat) := by
    have : ((b.toNat : Nat) : Int) = b := Int.toNat_of_nonneg (by omega)
    exact_mod_cast this
  have ha' : (0 : Rat) ≤ (a : Rat) := by exact_mod_cast h0
  have hab : (a : Rat) ≤ (b : Rat) := by exact_mod_cast h1
  have e : (a : Rat) / b * b = a := Rat.div_mul_cancel (Rat.ne_of_gt hb')
  refine ⟨⟨a, by rw [hbn, e]⟩, ?_, ?_⟩
  · have : (0 : Rat) ≤ (a : Rat) / b := by rw [Rat.div_def]; exact Rat.mul_nonneg ha' (Rat.le_of_lt (Rat.inv_pos.mpr hb'))
    have h1 : ((1 : Nat) : Rat) = 1 := rfl
    grind
  · have : (a : Rat) / b ≤ 1 := by
      apply Rat.not_lt.mp
      intro z
      have := (Rat.lt_div_iff hb').mp z
      grind
    simpa using this
end WL
set_option Elab.async false
set_option linter.all false
set_option maxRecDepth 100000
set_option maxHeartbeats 4000000
namespace WL
open PySem PySem.Spec PyProof.Rows L2
/-! ### places -/
theorem ixN_n {n j : Nat} (hj : j < n) : ixN n (j : Int) = some j := by
  unfold ixN
  rw [if_pos (by omega), if_pos (by omega)]
  simp
theorem atI_n {α : Type} {xs : List α} {j : Nat} {x : α} (h : xs[j]? = some x) : atI xs (j : Int) = some x := by
  have hj := (List.getElem?_eq_some_iff.mp h).1
  unfold atI
  rw [ixN_n hj]; exact h
theorem atI_i {α : Type} {xs : List α} {i : Int} {x : α} (h0 : 0 ≤ i) (h : xs[i.toNat]? = some x) : atI xs i = some x := by
  have := atI_n h
  rwa [Int.toNat_of_nonneg h0] at this
/-- the m-th from the end -/
theorem atI_neg {α : Type} {xs : List α} {m : Nat} {x : α} (h0 : 0 < m) (hm : m ≤ xs.length) (h : xs[xs.length - m]? = some x) : atI xs (-(m : Int)) = some x := by
  unfold atI ixN
  rw [if_neg (by omega), if_pos (by omega)]
  have : (-(m : Int) + (xs.length : Int)).toNat = xs.length - m := by omega
  rw [this]; exact h
theorem atI_last {α : Type} {xs : List α} {x : α} (h : xs.getLast? = some x) : atI xs (-1) = some x := by
  cases xs with
  | nil => cases h
  | cons y ys =>
    have := atI_neg (xs := y :: ys) (m := 1) (x := x) (by decide) (by simp) (by rw [← List.getLast?_eq_getElem?]; exact h)
    exact this
theorem atD_lst {xs : List D} {i : Int} {d : D} (h : atI xs i = some d) : atD (.lst xs) i = some d := h
theorem atD_tup {xs : List D} {i : Int} {d : D} (h : atI xs i = some d) : atD (.tup xs) i = some d := h
theorem atI_map {α : Type} {f : α → D} {xs : List α} {i : Int} {x : α} (h : atI xs i = some x) : atI (xs.map f) i = some (f x) := by
  unfold atI at h ⊢
  rw [List.length_map]
  cases e : ixN xs.length i with
  | none => rw [e] at h; cases h
  | some j =>
    rw [e] at h
    show (xs.map f)[j]? = _
    rw [List.getElem?_map, show xs[j]? = some x from h]; rfl
theorem cut_all {xs : List D} : cutD xs none none = xs := by
  unfold cutD HT.sIx
  simp
theorem cut_from {xs : List D} {n : Nat} : cutD xs (some (n : Int)) none = xs.drop n := by
  unfold cutD
  rw [HT.sIx_nat]
  show (xs.drop (min n xs.length)).take (xs.length - min n xs.length) = _
  rw [List.take_of_length_le (by rw [List.length_drop]; omega)]
  by_cases h : n ≤ xs.length
  · rw [Nat.min_eq_left h]
  · rw [Nat.min_eq_right (by omega), List.drop_of_length_le (Nat.le_refl _), List.drop_of_length_le (by omega)]
theorem cut_to {xs : List D} {n : Nat} : cutD xs none (some (n : Int)) = xs.take n := by
  unfold cutD
  rw [HT.sIx_nat]
  show (xs.drop 0).take (min n xs.length - 0) = _
  rw [List.drop_zero, Nat.sub_zero]
  by_cases h : n ≤ xs.length
  · rw [Nat.min_eq_left h]
  · rw [Nat.min_eq_right (by omega), List.take_of_length_le (Nat.le_refl _), List.take_of_length_le (by omega)]
theorem cut_mid {xs : List D} {n m : Nat} (h : m ≤ xs.length) (hn : n ≤ m) : cutD xs (some (n : Int)) (some (m : Int)) = (xs.take m).drop n := by
  unfold cutD
  rw [HT.sIx_nat, HT.sIx_nat, Nat.min_eq_left h, Nat.min_eq_left (by omega), ← List.drop_take]
theorem cut_init {xs : List D} : cutD xs none (some (-1)) = xs.dropLast := by
  unfold cutD HT.sIx
  simp only
  rw [if_pos (by decide), List.drop_zero, Nat.sub_zero, List.dropLast_eq_take]
  congr 1
  omega
section
variable {P : Program} {w : World} {K : PySem.W.Frag} {mg : Str → Option Value} {base : Heap}
abbrev C_is_whole (P : Program) (w : World) (K : PySem.W.Frag) (mg : Str → Option Value) (base : Heap) : Prop := Fn P w K mg base "is_whole" ["thing"] 1 (SpP ⟨P, w, K⟩ RIsWhole) []
abbrev C_part (P : Program) (w : World) (K : PySem.W.Frag) (mg : Str → Option Value) (base : Heap) : Prop := Fn P w K mg base "part" ["top", "below"] 2 (SpP ⟨P, w, K⟩ RPart) []
abbrev C_part1 (P : Program) (w : World) (K : PySem.W.Frag) (mg : Str → Option Value) (base : Heap) : Prop := Fn P w K mg base "part" ["top", "below"] 2 (SpP ⟨P, w, K⟩ RPart) [.int 1]
abbrev C_plus (P : Program) (w : World) (K : PySem.W.Frag) (mg : Str → Option Value) (base : Heap) : Prop := Fn P w K mg base "plus" ["one", "other"] 3 (SpP ⟨P, w, K⟩ RPlus) []
abbrev C_minus (P : Program) (w : World) (K : PySem.W.Frag) (mg : Str → Option Value) (base : Heap) : Prop := Fn P w K mg base "minus" ["one", "other"] 3 (SpP ⟨P, w, K⟩ RMinus) []
abbrev C_times (P : Program) (w : World) (K : PySem.W.Frag) (mg : Str → Option Value) (base : Heap) : Prop := Fn P w K mg base "times" ["one", "other"] 3 (SpP ⟨P, w, K⟩ RTimes) []
abbrev C_over (P : Program) (w : World) (K : PySem.W.Frag) (mg : Str → Option Value) (base : Heap) : Prop := Fn P w K mg base "over" ["one", "other"] 3 (SpP ⟨P, w, K⟩ ROver) []
abbrev C_is_less (P : Program) (w : World) (K : PySem.W.Frag) (mg : Str → Option Value) (base : Heap) : Prop := Fn P w K mg base "is_less" ["one", "other"] 1 (SpP ⟨P, w, K⟩ RLess) []
/-! ### is_part, as_part -/
/-- a number as the law writes it -/
inductive PartD : D → Rat → Prop
  | int (i : Int) : PartD (.int i) i
  | tup (t b : Int) : 0 < b → b.natAbs < 2 ^ 9000 → PartD (.tup [.int t, .int b]) (Rat.divInt t b)
theorem partD_qd {q : Rat} (h : q.den < 2 ^ 9000) : PartD (qd q) q := by
  have := PartD.tup q.num q.den (by have := q.den_pos; omega) (by rw [Int.natAbs_natCast]; exact h)
  rwa [Rat.num_divInt_den] at this
def RIsPart (ds : List D) (r : D) : Prop := ∃ d q, ds = [d] ∧ PartD d q ∧ r = .bl true
abbrev C_is_part (P : Program) (w : World) (K : PySem.W.Frag) (mg : Str → Option Value) (base : Heap) : Prop := Fn P w K mg base "is_part" ["thing"] 2 (SpP ⟨P, w, K⟩ RIsPart) []
theorem sc_is_part : FnScope ["thing"] ["thing"] (defScope s_is_part) := ⟨rfl, rfl, rfl, by decide +kernel, rfl, by decide +kernel, by decide +kernel⟩
theorem fn_is_part (T : Tx K mg) (F : Dfn K mg "is_part" s_is_part []) (Fis_whole : C_is_whole P w K mg base) : C_is_part P w K mg base := by
  have sc := sc_is_part
  refine F.fn (fun _ _ _ _ _ _ us hl => match us, hl with | [_], _ => rfl) fun f fd F => ?_
  refine fn_pure F sc (by rintro ds r ⟨_, _, rfl, _⟩; rfl) (by decide) fun cdv A outer s H ds r hr hR => ?_
  obtain ⟨d, q, rfl, hd, rfl⟩ := hR
  cases hd with
  | int i =>
    refine sds_cons (sd_ifF (pd_isT "tuple" T.isinstance T.tuple PyProof.Rows.boot_tuple (pd_var 0 rfl) rfl (by decide +kernel)).t rfl (sds_nil ?_))
    exact sds_one (sd_ret (pd_call Fis_whole (hr.mono (by decide)) dfl_nil (pad_cons (pd_var 0 rfl) pad_nil) isWhole_int) rfl)
  | tup t b hb hs =>
    refine sds_cons (sd_ifT (pd_isT "tuple" T.isinstance T.tuple PyProof.Rows.boot_tuple (pd_var 0 rfl) rfl (by decide +kernel)).t rfl ?_)
    exact sds_one (sd_ret (pd_and4 (pd_eq (pd_len T.len (pd_var 0 rfl) rfl) pd_int) (fun _ => (pd_call Fis_whole (hr.mono (by decide)) dfl_nil (pad_cons (pd_at (pd_var 0 rfl) pd_int rfl) pad_nil) isWhole_int)) (fun _ _ => (pd_call Fis_whole (hr.mono (by decide)) dfl_nil (pad_cons (pd_at (pd_var 0 rfl) pd_int rfl) pad_nil) isWhole_int)) (fun _ _ _ => (pd_ge (pd_at (pd_var 0 rfl) pd_int rfl) pd_int))) (by
      have : (1 : Int) ≤ b := by omega
      simp [this]))
def RAsPart (ds : List D) (r : D) : Prop := ∃ d q, ds = [d] ∧ PartD d q ∧ r = qd q
abbrev C_as_part (P : Program) (w : World) (K : PySem.W.Frag) (mg : Str → Option Value) (base : Heap) : Prop := Fn P w K mg base "as_part" ["thing"] 3 (SpP ⟨P, w, K⟩ RAsPart) []
theorem sc_as_part : FnScope ["thing"] ["thing"] (defScope s_as_part) := ⟨rfl, rfl, rfl, by decide +kernel, rfl, by decide +kernel, by decide +kernel⟩
theorem fn_as_part (T : Tx K mg) (F : Dfn K mg "as_part" s_as_part []) (Fis_part : C_is_part P w K mg base) (Fpart : C_part P w K mg base) (Fpart1 : C_part1 P w K mg base) : C_as_part P w K mg base := by
  have sc := sc_as_part
  refine F.fn (fun _ _ _ _ _ _ us hl => match us, hl with | [_], _ => rfl) fun f fd F => ?_
  refine fn_pure F sc (by rintro ds r ⟨_, _, rfl, _⟩; rfl) (by decide) fun cdv A outer s H ds r hr hR => ?_
  obtain ⟨d, q, rfl, hd, rfl⟩ := hR
  refine sds_cons (sd_ifF (pt_not (pd_call Fis_part (hr.mono (by decide)) dfl_nil (pad_cons (pd_var 0 rfl) pad_nil) ⟨_, _, rfl, hd, rfl⟩).t) rfl (sds_nil ?_))
  cases hd with
  | int i =>
    refine sds_one (sd_ret (pd_ifexp (p := false) (pd_isT "tuple" T.isinstance T.tuple PyProof.Rows.boot_tuple (pd_var 0 rfl) rfl (by decide +kernel)).t (fun hc => absurd hc Bool.false_ne_true) (fun hc => (pd_call Fpart1 (hr.mono (by decide)) dfl_one (pad_cons (pd_var 0 rfl) pad_nil) ⟨i, 1, rfl, by decide, ?_, rfl⟩))) (by rw [divInt_one]))
    exact Nat.lt_of_lt_of_le (show (1 : Int).natAbs < 2 ^ 1 by decide) (Nat.pow_le_pow_right (by decide) (by omega))
  | tup t b hb hs =>
    exact sds_one (sd_ret (pd_ifexp (p := true) (pd_isT "tuple" T.isinstance T.tuple PyProof.Rows.boot_tuple (pd_var 0 rfl) rfl (by decide +kernel)).t (fun hc => (pd_call Fpart (hr.mono (by decide)) dfl_nil (pad_cons (pd_at (pd_var 0 rfl) pd_int rfl) (pad_cons (pd_at (pd_var 0 rfl) pd_int rfl) pad_nil)) ⟨t, b, rfl, hb, hs, rfl⟩)) (fun hc => absurd hc.symm Bool.false_ne_true)) rfl)
/-! ### greatest, least, total -/
def maxQ : List Rat → Rat
  | [] => 0
  | q :: qs => qs.foldl (fun f x => if f < x then x else f) q
def minQ : List Rat → Rat
  | [] => 0
  | q :: qs => qs.foldl (fun f x => if x < f then x else f) q
def sumQ (qs : List Rat) : Rat := qs.foldl (fun f x => f + x) 0
theorem foldl_take_succ {α β : Type} (g : β → α → β) (b : β) {xs : List α} {k : Nat} {x : α} (h : xs[k]? = some x) : (xs.take (k + 1)).foldl g b = g ((xs.take k).foldl g b) x := by
  rw [List.take_add_one, h, List.foldl_append]; rfl
theorem fold_mem {g : Rat → Rat → Rat} (hg : ∀ a b, g a b = a ∨ g a b = b) {S : Rat → Prop} : ∀ (qs : List Rat) (q : Rat), S q → (∀ x ∈ qs, S x) → S (qs.foldl g q)
  | [], q, h, _ => h
  | x :: qs, q, h, hs => fold_mem hg qs (g q x) (by rcases hg q x with e | e <;> rw [e]; exact h; exact hs x (by simp)) fun y hy => hs y (by simp [hy])
def RGreatest (ds : List D) (r : D) : Prop := ∃ qs : List Rat, ds = [.lst (qs.map qd)] ∧ qs ≠ [] ∧ (∀ q ∈ qs, Sm q) ∧ r = qd (maxQ qs)
def RLeast (ds : List D) (r : D) : Prop := ∃ qs : List Rat, ds = [.lst (qs.map qd)] ∧ qs ≠ [] ∧ (∀ q ∈ qs, Sm q) ∧ r = qd (minQ qs)
abbrev C_greatest (P : Program) (w : World) (K : PySem.W.Frag) (mg : Str → Option Value) (base : Heap) : Prop := Fn P w K mg base "greatest" ["parts"] 2 (SpP ⟨P, w, K⟩ RGreatest) []
abbrev C_least (P : Program) (w : World) (K : PySem.W.Frag) (mg : Str → Option Value) (base : Heap) : Prop := Fn P w K mg base "least" ["parts"] 2 (SpP ⟨P, w, K⟩ RLeast) []
theorem cut1 {x : D} {xs : List D} : cutD (x :: xs) (some 1) none = xs := by
  unfold cutD HT.sIx
  simp
theorem sc_greatest : FnScope ["parts", "found", "one"] ["parts"] (defScope s_greatest) := ⟨rfl, rfl, rfl, by decide +kernel, rfl, by decide +kernel, by decide +kernel⟩
theorem fn_greatest (T : Tx K mg) (F : Dfn K mg "greatest" s_greatest []) (Fis_less : C_is_less P w K mg base) : C_greatest P w K mg base := by
  have sc := sc_greatest
  refine F.fn (fun _ _ _ _ _ _ us hl => match us, hl with | [_], _ => rfl) fun f fd F => ?_
  refine fn_pure F sc (by rintro ds r ⟨_, rfl, _⟩; rfl) (by decide) fun cdv A outer s H ds r hr hR => ?_
  obtain ⟨qs, rfl, hne, hs, rfl⟩ := hR
  cases qs with
  | nil => exact absurd rfl hne
  | cons q qs =>
  refine sds_cons (sd_asg 1 (pd_at (d := qd q) (pd_var 0 rfl) pd_int (atD_lst (atI_n (j := 0) rfl))) ?_ sc.nd)
  have hfm : ∀ k, Sm ((qs.take k).foldl (fun f x => if f < x then x else f) q) := fun k => fold_mem (fun a b => by by_cases h : a < b <;> simp [h]) _ q (hs q (by simp)) fun x hx => hs x (List.mem_cons_of_mem _ (List.mem_of_mem_take hx))
  refine sds_cons (sd_for (fun k ρ => ∃ e, ρ = [.d (.lst ((q :: qs).map qd)), .d (qd ((qs.take k).foldl (fun f x => if f < x then x else f) q)), e]) (src_list (xs := qs.map qd) ((pl_cut (pd_var 0 rfl) (pod_some pd_int) pod_none).is (by rw [List.map_cons, cut1])).lst) ⟨_, rfl⟩ (fun k d ρ hd hI => ?_) (fun ρ hI => ?_))
  · obtain ⟨e, rfl⟩ := hI
    rw [List.getElem?_map] at hd
    obtain ⟨x, hx, rfl⟩ := Option.map_eq_some_iff.mp hd
    refine ⟨_, _, (gd_name 2 sc.nd), ?_⟩
    have hxs : Sm x := hs x (List.mem_cons_of_mem _ (List.mem_of_getElem? hx))
    refine sds_one (sd_asg 1 (d := qd ((qs.take (k + 1)).foldl (fun f x => if f < x then x else f) q)) (pd_ifexp (pd_call Fis_less (hr.mono (by decide)) dfl_nil (pad_cons (pd_var 1 rfl) (pad_cons (pd_var 2 rfl) pad_nil)) ⟨_, _, rfl, hfm k, hxs, rfl⟩).t (fun hc => (pd_var 2 rfl).is ?_) (fun hc => (pd_var 1 rfl).is ?_)) ⟨_, rfl⟩ sc.nd)
    · rw [foldl_take_succ _ _ hx, if_pos (of_decide_eq_true hc)]
    · rw [foldl_take_succ _ _ hx, if_neg (of_decide_eq_false hc)]
  · obtain ⟨e, rfl⟩ := hI
    refine sds_one (sd_ret (pd_var 1 rfl) ?_)
    rw [List.length_map, List.take_length]; rfl
theorem sc_least : FnScope ["parts", "found", "one"] ["parts"] (defScope s_least) := ⟨rfl, rfl, rfl, by decide +kernel, rfl, by decide +kernel, by decide +kernel⟩
theorem fn_least (T : Tx K mg) (F : Dfn K mg "least" s_least []) (Fis_less : C_is_less P w K mg base) : C_least P w K mg base := by
  have sc := sc_least
  refine F.fn (fun _ _ _ _ _ _ us hl => match us, hl with | [_], _ => rfl) fun f fd F => ?_
  refine fn_pure F sc (by rintro ds r ⟨_, rfl, _⟩; rfl) (by decide) fun cdv A outer s H ds r hr hR => ?_
  obtain ⟨qs, rfl, hne, hs, rfl⟩ := hR
  cases qs with
  | nil => exact absurd rfl hne
  | cons q qs =>
  refine sds_cons (sd_asg 1 (pd_at (d := qd q) (pd_var 0 rfl) pd_int (atD_lst (atI_n (j := 0) rfl))) ?_ sc.nd)
  have hfm : ∀ k, Sm ((qs.take k).foldl (fun f x => if x < f then x else f) q) := fun k => fold_mem (fun a b => by by_cases h : b < a <;> simp [h]) _ q (hs q (by simp)) fun x hx => hs x (List.mem_cons_of_mem _ (List.mem_of_mem_take hx))
  refine sds_cons (sd_for (fun k ρ => ∃ e, ρ = [.d (.lst ((q :: qs).map qd)), .d (qd ((qs.take k).foldl (fun f x => if x < f then x else f) q)), e]) (src_list (xs := qs.map qd) ((pl_cut (pd_var 0 rfl) (pod_some pd_int) pod_none).is (by rw [List.map_cons, cut1])).lst) ⟨_, rfl⟩ (fun k d ρ hd hI => ?_) (fun ρ hI => ?_))
  · obtain ⟨e, rfl⟩ := hI
    rw [List.getElem?_map] at hd
    obtain ⟨x, hx, rfl⟩ := Option.map_eq_some_iff.mp hd
    refine ⟨_, _, (gd_name 2 sc.nd), ?_⟩
    have hxs : Sm x := hs x (List.mem_cons_of_mem _ (List.mem_of_getElem? hx))
    refine sds_one (sd_asg 1 (d := qd ((qs.take (k + 1)).foldl (fun f x => if x < f then x else f) q)) (pd_ifexp (pd_call Fis_less (hr.mono (by decide)) dfl_nil (pad_cons (pd_var 2 rfl) (pad_cons (pd_var 1 rfl) pad_nil)) ⟨_, _, rfl, hxs, hfm k, rfl⟩).t (fun hc => (pd_var 2 rfl).is ?_) (fun hc => (pd_var 1 rfl).is ?_)) ⟨_, rfl⟩ sc.nd)
    · rw [foldl_take_succ _ _ hx, if_pos (of_decide_eq_true hc)]
    · rw [foldl_take_succ _ _ hx, if_neg (of_decide_eq_false hc)]
  · obtain ⟨e, rfl⟩ := hI
    refine sds_one (sd_ret (pd_var 1 rfl) ?_)
    rw [List.length_map, List.take_length]; rfl
/-- the partial sums are small -/
def SmSums (qs : List Rat) : Prop := ∀ k, Sm (sumQ (qs.take k))
theorem bd_sums {Dn M N : Nat} {qs : List Rat} (h0 : 0 < Dn) (h1 : Dn < 2 ^ 4400) (hs : ∀ q ∈ qs, Bd Dn M q) (hl : qs.length ≤ N) (h2 : (M * N) * Dn < 2 ^ 400000) : ∀ k, Bd Dn (M * N) (sumQ (qs.take k)) := by
  have gen : ∀ k, k ≤ qs.length → Bd Dn (M * k) (sumQ (qs.take k)) := fun k => by
    induction k with
    | zero =>
      intro _
      show Bd Dn (M * 0) 0
      refine ⟨⟨0, ?_⟩, ?_, ?_⟩
      · exact Rat.zero_mul _
      · simp
      · simp
    | succ k ih =>
      intro hk
      have e := List.getElem?_eq_getElem (show k < qs.length by omega)
      have : sumQ (qs.take (k + 1)) = sumQ (qs.take k) + qs[k] := foldl_take_succ _ _ e
      rw [this, Nat.mul_succ]
      exact (ih (by omega)).add (hs _ (List.getElem_mem _))
  intro k
  by_cases hk : k ≤ qs.length
  · exact (gen k hk).mono (Nat.mul_le_mul_left M (by omega))
  · rw [List.take_of_length_le (by omega), ← List.take_length (l := qs)]
    exact (gen qs.length (Nat.le_refl _)).mono (Nat.mul_le_mul_left M hl)
def RTotal (ds : List D) (r : D) : Prop := ∃ (qs : List Rat) (d : D), ds = [d] ∧ seqD d = some (qs.map qd) ∧ (∀ q ∈ qs, Sm q) ∧ SmSums qs ∧ r = qd (sumQ qs)
abbrev C_total (P : Program) (w : World) (K : PySem.W.Frag) (mg : Str → Option Value) (base : Heap) : Prop := Fn P w K mg base "total" ["parts"] 4 (SpP ⟨P, w, K⟩ RTotal) []
/-- a walk over a list or a tuple -/
theorem src_seq {X : Cx} {ρ ρ1 : List E} {a tg : Expr} {d : D} {xs : List D} (h : PD X ρ a ρ1 d) (hs : seqD d = some xs) : Src X tg a ρ ρ1 xs := by
  cases d with
  | tup zs => cases hs; exact src_tup h
  | lst zs => cases hs; exact src_list h
  | _ => cases hs
theorem qd_zero : qd 0 = .tup [.int 0, .int 1] := rfl
theorem sc_total : FnScope ["parts", "found", "one"] ["parts"] (defScope s_total) := ⟨rfl, rfl, rfl, by decide +kernel, rfl, by decide +kernel, by decide +kernel⟩
theorem fn_total (T : Tx K mg) (F : Dfn K mg "total" s_total []) (Fplus : C_plus P w K mg base) : C_total P w K mg base := by
  have sc := sc_total
  refine F.fn (fun _ _ _ _ _ _ us hl => match us, hl with | [_], _ => rfl) fun f fd F => ?_
  refine fn_pure F sc (by rintro ds r ⟨_, _, rfl, _⟩; rfl) (by decide) fun cdv A outer s H ds r hr hR => ?_
  obtain ⟨qs, dd, rfl, hq, hs, hss, rfl⟩ := hR
  refine sds_cons (sd_asg 1 (pd_tup (pad_cons pd_int (pad_cons pd_int pad_nil)) (lenOk rfl)) ?_ sc.nd)
  refine sds_cons (sd_for (fun k ρ => ∃ e, ρ = [.d dd, .d (qd (sumQ (qs.take k))), e]) (src_seq (pd_var 0 rfl) hq) ⟨_, rfl⟩ (fun k d ρ hd hI => ?_) (fun ρ hI => ?_))
  · obtain ⟨e, rfl⟩ := hI
    rw [List.getElem?_map] at hd
    obtain ⟨x, hx, rfl⟩ := Option.map_eq_some_iff.mp hd
    refine ⟨_, _, (gd_name 2 sc.nd), ?_⟩
    refine sds_one (sd_asg 1 (pd_call Fplus (hr.mono (by decide)) dfl_nil (pad_cons (pd_var 1 rfl) (pad_cons (pd_var 2 rfl) pad_nil)) ⟨_, _, rfl, hss k, hs x (List.mem_of_getElem? hx), rfl⟩) ⟨E.d (qd x), ?_⟩ sc.nd)
    have : sumQ (qs.take (k + 1)) = sumQ (qs.take k) + x := foldl_take_succ _ _ hx
    rw [this]; rfl
  · obtain ⟨e, rfl⟩ := hI
    refine sds_one (sd_ret (pd_var 1 rfl) ?_)
    rw [List.length_map, List.take_length]
/-! ### the law's own arithmetic -/
abbrev C__law_common (P : Program) (w : World) (K : PySem.W.Frag) (mg : Str → Option Value) (base : Heap) : Prop := Fn P w K mg base "_law_common" ["_law_one", "_law_other"] 1 (SpP ⟨P, w, K⟩ RCommon) []
abbrev C__law_part (P : Program) (w : World) (K : PySem.W.Frag) (mg : Str → Option Value) (base : Heap) : Prop := Fn P w K mg base "_law_part" ["_law_top", "_law_below"] 2 (SpP ⟨P, w, K⟩ RPart) []
abbrev C__law_plus (P : Program) (w : World) (K : PySem.W.Frag) (mg : Str → Option Value) (base : Heap) : Prop := Fn P w K mg base "_law_plus" ["_law_one", "_law_other"] 3 (SpP ⟨P, w, K⟩ RPlus) []
abbrev C__law_minus (P : Program) (w : World) (K : PySem.W.Frag) (mg : Str → Option Value) (base : Heap) : Prop := Fn P w K mg base "_law_minus" ["_law_one", "_law_other"] 3 (SpP ⟨P, w, K⟩ RMinus) []
abbrev C__law_times (P : Program) (w : World) (K : PySem.W.Frag) (mg : Str → Option Value) (base : Heap) : Prop := Fn P w K mg base "_law_times" ["_law_one", "_law_other"] 3 (SpP ⟨P, w, K⟩ RTimes) []
abbrev C__law_less (P : Program) (w : World) (K : PySem.W.Frag) (mg : Str → Option Value) (base : Heap) : Prop := Fn P w K mg base "_law_less" ["_law_one", "_law_other"] 1 (SpP ⟨P, w, K⟩ RLess) []
theorem sc__law_common : FnScope ["_law_one", "_law_other"] ["_law_one", "_law_other"] (defScope s__law_common) := ⟨rfl, rfl, rfl, by decide +kernel, rfl, by decide +kernel, by decide +kernel⟩
theorem fn__law_common (T : Tx K mg) (F : Dfn K mg "_law_common" s__law_common []) : C__law_common P w K mg base := by
  have sc := sc__law_common
  refine F.fn (fun _ _ _ _ _ _ us hl => match us, hl with | [_, _], _ => rfl) fun f fd F => ?_
  refine fn_pure F sc (by rintro ds r ⟨_, _, rfl, _⟩; rfl) (by decide) fun cdv A outer s H ds r hr hR => ?_
  obtain ⟨a, b, rfl, rfl⟩ := hR
  refine sds_cons (sd_while (fun ρ => ∃ x y : Nat, ρ = [.d (.int x), .d (.int y)] ∧ Nat.gcd x y = Nat.gcd a b) (fun ρ => match ρ with | [_, .d (.int y)] => y.toNat | _ => 0) ⟨a, b, rfl, rfl⟩ fun ρ hI => ?_)
  obtain ⟨x, y, rfl, hg⟩ := hI
  refine ⟨_, _, (pt_ne (pd_var 1 rfl) pd_int), fun hc => ?_, fun hc => ?_⟩
  · have hy : (0 : Int) < y := by
      have h1 := hc
      simp at h1
      omega
    refine sds_one (sd_par 0 1 (pad_cons (pd_var 1 rfl) (pad_cons (pd_mod (pd_toInt T.int (pd_var 0 rfl)) (pd_var 1 rfl) hy) pad_nil)) ⟨⟨y, x % y, rfl, ?_⟩, ?_⟩ sc.nd)
    · rw [← hg, Nat.gcd_comm x y, Nat.gcd_comm y (x % y), ← Nat.gcd_rec]
    · show ((x : Int) % (y : Int)).toNat < ((y : Int)).toNat
      have := Int.emod_lt_of_pos (x : Int) hy
      have := Int.emod_nonneg (x : Int) (show (y : Int) ≠ 0 by omega)
      omega
  · have hy : y = 0 := by
      have h1 := hc
      simp at h1
      omega
    subst hy
    refine sds_one (sd_ret (pd_var 0 rfl) ?_)
    rw [← hg]
    simp
theorem sc__law_part : FnScope ["_law_top", "_law_below", "_law_least"] ["_law_top", "_law_below"] (defScope s__law_part) := ⟨rfl, rfl, rfl, by decide +kernel, rfl, by decide +kernel, by decide +kernel⟩
theorem fn__law_part (T : Tx K mg) (F : Dfn K mg "_law_part" s__law_part []) (Fcommon : C__law_common P w K mg base) : C__law_part P w K mg base := by
  have sc := sc__law_part
  refine F.fn (fun _ _ _ _ _ _ us hl => match us, hl with | [_, _], _ => rfl) fun f fd F => ?_
  refine fn_pure F sc (by rintro ds r ⟨_, _, rfl, _⟩; rfl) (by decide) fun cdv A outer s H ds r hr hR => ?_
  obtain ⟨t, b, rfl, hb, hs, rfl⟩ := hR
  refine sds_cons (sd_asg 2 (pd_call Fcommon (hr.mono (by decide)) dfl_nil (pad_cons (pd_abs T.abs (pd_var 0 rfl)) (pad_cons (pd_var 1 rfl) pad_nil)) ⟨t.natAbs, b.natAbs, ?_, rfl⟩) ?_ sc.nd)
  · rw [abs_ite, show ((b.natAbs : Nat) : Int) = b by omega]; rfl
  have hg : 0 < Nat.gcd t.natAbs b.natAbs := Nat.gcd_pos_of_pos_right _ (by omega)
  refine sds_one (sd_ret (pd_ifexp (pt_ne (pd_var 2 rfl) pd_int) (fun hc => (pd_tup (pad_cons (pd_toInt T.int (pd_fdiv (pd_var 0 rfl) (pd_var 2 rfl) (divW_gcd hb hs _))) (pad_cons (pd_toInt T.int (pd_fdiv (pd_var 1 rfl) (pd_var 2 rfl) (divW_gcd hb hs _))) pad_nil)) (lenOk rfl))) (fun hc => ?_)) ?_)
  · exfalso
    simp at hc
    omega
  unfold qd
  rw [part_num t b hb, part_den t b hb]
theorem sc__law_plus : FnScope ["_law_one", "_law_other"] ["_law_one", "_law_other"] (defScope s__law_plus) := ⟨rfl, rfl, rfl, by decide +kernel, rfl, by decide +kernel, by decide +kernel⟩
theorem fn__law_plus (F : Dfn K mg "_law_plus" s__law_plus []) (Fpart : C__law_part P w K mg base) : C__law_plus P w K mg base := by
  refine F.fn (fun _ _ _ _ _ _ us hl => match us, hl with | [_, _], _ => rfl) fun f fd F => ?_
  refine fn_pure F sc__law_plus (by rintro ds r ⟨_, _, rfl, _⟩; rfl) (by decide) fun cdv A outer s H ds r hr hR => ?_
  obtain ⟨a, b, rfl, ha, hb, rfl⟩ := hR
  exact sds_one (sd_ret (pd_call Fpart (hr.mono (by decide)) dfl_nil (pad_cons (pd_add (pd_mul (pd_at (pd_var 0 rfl) pd_int rfl) (pd_at (pd_var 1 rfl) pd_int rfl) (sm_nd ha hb)) (pd_mul (pd_at (pd_var 1 rfl) pd_int rfl) (pd_at (pd_var 0 rfl) pd_int rfl) (sm_nd hb ha))) (pad_cons (pd_mul (pd_at (pd_var 0 rfl) pd_int rfl) (pd_at (pd_var 1 rfl) pd_int rfl) (sm_dd ha hb)) pad_nil))
    ⟨_, _, rfl, sm_ddpos a b, sm_ddlt ha hb, rfl⟩) (by rw [divInt_add]))
theorem sc__law_minus : FnScope ["_law_one", "_law_other"] ["_law_one", "_law_other"] (defScope s__law_minus) := ⟨rfl, rfl, rfl, by decide +kernel, rfl, by decide +kernel, by decide +kernel⟩
theorem fn__law_minus (F : Dfn K mg "_law_minus" s__law_minus []) (Fpart : C__law_part P w K mg base) : C__law_minus P w K mg base := by
  refine F.fn (fun _ _ _ _ _ _ us hl => match us, hl with | [_, _], _ => rfl) fun f fd F => ?_
  refine fn_pure F sc__law_minus (by rintro ds r ⟨_, _, rfl, _⟩; rfl) (by decide) fun cdv A outer s H ds r hr hR => ?_
  obtain ⟨a, b, rfl, ha, hb, rfl⟩ := hR
  exact sds_one (sd_ret (pd_call Fpart (hr.mono (by decide)) dfl_nil (pad_cons (pd_sub (pd_mul (pd_at (pd_var 0 rfl) pd_int rfl) (pd_at (pd_var 1 rfl) pd_int rfl) (sm_nd ha hb)) (pd_mul (pd_at (pd_var 1 rfl) pd_int rfl) (pd_at (pd_var 0 rfl) pd_int rfl) (sm_nd hb ha))) (pad_cons (pd_mul (pd_at (pd_var 0 rfl) pd_int rfl) (pd_at (pd_var 1 rfl) pd_int rfl) (sm_dd ha hb)) pad_nil))
    ⟨_, _, rfl, sm_ddpos a b, sm_ddlt ha hb, rfl⟩) (by rw [divInt_sub]))
theorem sc__law_times : FnScope ["_law_one", "_law_other"] ["_law_one", "_law_other"] (defScope s__law_times) := ⟨rfl, rfl, rfl, by decide +kernel, rfl, by decide +kernel, by decide +kernel⟩
theorem fn__law_times (F : Dfn K mg "_law_times" s__law_times []) (Fpart : C__law_part P w K mg base) : C__law_times P w K mg base := by
  refine F.fn (fun _ _ _ _ _ _ us hl => match us, hl with | [_, _], _ => rfl) fun f fd F => ?_
  refine fn_pure F sc__law_times (by rintro ds r ⟨_, _, rfl, _⟩; rfl) (by decide) fun cdv A outer s H ds r hr hR => ?_
  obtain ⟨a, b, rfl, ha, hb, rfl⟩ := hR
  exact sds_one (sd_ret (pd_call Fpart (hr.mono (by decide)) dfl_nil (pad_cons (pd_mul (pd_at (pd_var 0 rfl) pd_int rfl) (pd_at (pd_var 1 rfl) pd_int rfl) (sm_nn ha hb)) (pad_cons (pd_mul (pd_at (pd_var 0 rfl) pd_int rfl) (pd_at (pd_var 1 rfl) pd_int rfl) (sm_dd ha hb)) pad_nil))
    ⟨_, _, rfl, sm_ddpos a b, sm_ddlt ha hb, rfl⟩) (by rw [divInt_mul]))
theorem sc__law_less : FnScope ["_law_one", "_law_other"] ["_law_one", "_law_other"] (defScope s__law_less) := ⟨rfl, rfl, rfl, by decide +kernel, rfl, by decide +kernel, by decide +kernel⟩
theorem fn__law_less (F : Dfn K mg "_law_less" s__law_less []) : C__law_less P w K mg base := by
  refine F.fn (fun _ _ _ _ _ _ us hl => match us, hl with | [_, _], _ => rfl) fun f fd F => ?_
  refine fn_pure F sc__law_less (by rintro ds r ⟨_, _, rfl, _⟩; rfl) (by decide) fun cdv A outer s H ds r hr hR => ?_
  obtain ⟨a, b, rfl, ha, hb, rfl⟩ := hR
  exact sds_one (sd_ret (pd_lt (pd_mul (pd_at (pd_var 0 rfl) pd_int rfl) (pd_at (pd_var 1 rfl) pd_int rfl) (sm_nd ha hb)) (pd_mul (pd_at (pd_var 1 rfl) pd_int rfl) (pd_at (pd_var 0 rfl) pd_int rfl) (sm_nd hb ha))) (by rw [lt_num]))
end
end WL
set_option Elab.async false
set_option linter.all false
set_option maxRecDepth 100000
set_option maxHeartbeats 4000000
namespace WL
open PySem PySem.Spec PyProof.Rows L2
/-- a row of basins, told plainly -/
structure Rw where
  ar : List Nat
  vo : List Rat
  lk : List Nat
abbrev nD (k : Nat) : D := .int (k : Int)
def rowD (K : PySem.W.Frag) (r : Rw) : D := .ins (cA K "Row") ["areas", "volumes", "locks"] [.tup (r.ar.map nD), .tup (r.vo.map qd), .tup (r.lk.map nD)]
structure RowOk (r : Rw) : Prop where
  pos : 1 ≤ r.ar.length
  most : r.ar.length ≤ 24
  ar : ∀ a ∈ r.ar, 1 ≤ a ∧ a ≤ 1000
  len : r.vo.length = r.ar.length
  nn : ∀ v ∈ r.vo, 0 ≤ v
  srt : r.lk.Pairwise (· < ·)
  lk : ∀ l ∈ r.lk, 1 ≤ l ∧ l < r.ar.length
theorem nD_map (xs : List Nat) : xs.map nD = (xs.map Int.ofNat).map D.int := by rw [List.map_map]; rfl
theorem mem_ofNat {k : Nat} {xs : List Nat} : ((k : Int) ∈ xs.map Int.ofNat) ↔ k ∈ xs := by
  rw [List.mem_map]
  constructor
  · rintro ⟨y, hy, e⟩
    have : y = k := Int.ofNat.inj e
    exact this ▸ hy
  · exact fun h => ⟨k, h, rfl⟩
def normN (xs : List Nat) : List Nat := (normI (xs.map Int.ofNat)).map Int.toNat
theorem normN_ofNat (xs : List Nat) : (normN xs).map Int.ofNat = normI (xs.map Int.ofNat) := by
  unfold normN
  rw [List.map_map]
  conv => rhs; rw [← List.map_id (normI (xs.map Int.ofNat))]
  apply List.map_congr_left
  intro i hi
  obtain ⟨k, _, rfl⟩ := List.mem_map.mp (mem_normI.mp hi)
  rfl
theorem mem_normN {k : Nat} {xs : List Nat} : k ∈ normN xs ↔ k ∈ xs := by
  rw [← mem_ofNat, normN_ofNat, mem_normI, mem_ofNat]
theorem normN_sorted (xs : List Nat) : (normN xs).Pairwise (· < ·) := by
  have h := normI_sorted (xs.map Int.ofNat)
  rw [← normN_ofNat, List.pairwise_map] at h
  exact h.imp fun {a b} h => Int.ofNat_lt.mp h
theorem normN_id {xs : List Nat} (h : xs.Pairwise (· < ·)) : normN xs = xs := by
  unfold normN
  rw [normI_id, List.map_map]
  · conv => rhs; rw [← List.map_id xs]
    apply List.map_congr_left
    intro k _
    rfl
  · rw [List.pairwise_map]
    exact h.imp fun {a b} h => Int.ofNat_lt.mpr h
/-- a strictly rising list of numbers below n is no longer than n -/
theorem sorted_len {n : Nat} : ∀ {xs : List Nat}, xs.Pairwise (· < ·) → (∀ x ∈ xs, x < n) → xs.length ≤ n := by
  intro xs h hn
  have nd : xs.Nodup := h.imp fun {a b} h => by omega
  have := List.Nodup.length_le_of_subset nd (l₂ := List.range n) fun x hx => List.mem_range.mpr (hn x hx)
  rwa [List.length_range] at this
/-- the partial sums -/
def psums (qs : List Rat) : List Rat := (List.range (qs.length + 1)).map fun k => sumQ (qs.take k)
def nsums (ns : List Nat) : List Nat := (List.range (ns.length + 1)).map fun k => (ns.take k).sum
theorem psums_len (qs : List Rat) : (psums qs).length = qs.length + 1 := by unfold psums; rw [List.length_map, List.length_range]
theorem psums_get {qs : List Rat} {k : Nat} (h : k ≤ qs.length) : (psums qs)[k]? = some (sumQ (qs.take k)) := by
  unfold psums
  rw [List.getElem?_map, List.getElem?_range (by omega)]; rfl
theorem nsums_len (ns : List Nat) : (nsums ns).length = ns.length + 1 := by unfold nsums; rw [List.length_map, List.length_range]
theorem nsums_get {ns : List Nat} {k : Nat} (h : k ≤ ns.length) : (nsums ns)[k]? = some ((ns.take k).sum) := by
  unfold nsums
  rw [List.getElem?_map, List.getElem?_range (by omega)]; rfl
/-- the weirs that open -/
def weirsOf (r : Rw) : List Nat := ((List.range (r.ar.length - 1)).map fun i => 1 + i).filter fun k => !decide (k ∈ r.lk)
theorem mem_weirs {r : Rw} {k : Nat} : k ∈ weirsOf r ↔ 1 ≤ k ∧ k < r.ar.length ∧ k ∉ r.lk := by
  unfold weirsOf
  rw [List.mem_filter, List.mem_map]
  constructor
  · rintro ⟨⟨i, hi, rfl⟩, h⟩
    have := List.mem_range.mp hi
    exact ⟨by omega, by omega, by simpa using h⟩
  · rintro ⟨h1, h2, h3⟩
    exact ⟨⟨k - 1, List.mem_range.mpr (by omega), by omega⟩, by simpa using h3⟩
/-- the volumes behind an opening of weir k by the share s -/
def openV (ar : List Nat) (vo : List Rat) (k : Nat) (s : Rat) : List Rat :=
  let a := ar.getD (k - 1) 0
  let b := ar.getD k 0
  let x := vo.getD (k - 1) 0
  let y := vo.getD k 0
  let first := x + ((x + y) * ((a : Rat) / ((a + b : Nat) : Rat)) - x) * s
  vo.take (k - 1) ++ [first, x + y - first] ++ vo.drop (k + 1)
end WL
set_option Elab.async false
set_option linter.all false
set_option maxRecDepth 100000
set_option maxHeartbeats 4000000
namespace WL
open PySem PySem.Spec PyProof.Rows L2
theorem seq_ty {x : D} {ds : List D} (h : seqD x = some ds) : tyN x = some "tuple" ∨ tyN x = some "list" := by
  cases x with
  | tup _ => exact .inl rfl
  | lst _ => exact .inr rfl
  | _ => cases h
/-- isinstance(x, (list, tuple)) -/
theorem pd_isSeq {X : Cx} {ρ ρ1 : List E} {a : Expr} {p pos n1 n2 pt : Pos} {kt : Nat} {x' : D} {xs : List D} (m : X.mg "isinstance" = none) (m1 : X.mg "list" = none) (m2 : X.mg "tuple" = none) (ha : PD X ρ a ρ1 x') (hs : seqD x' = some xs)
    (hg : Gl X "isinstance" := by rfl) (hg2 : Gl X "list" := by rfl) (hg3 : Gl X "tuple" := by rfl)
    (na : starEach [a, .Tuple [.Name "list" n1, .Name "tuple" n2] kt pt] X.env = (false, eval a X.env) :: starEach [.Tuple [.Name "list" n1, .Name "tuple" n2] kt pt] X.env := by rfl) (nb : starEach [.Tuple [.Name "list" n1, .Name "tuple" n2] kt pt] X.env = (false, eval (.Tuple [.Name "list" n1, .Name "tuple" n2] kt pt) X.env) :: starEach [] X.env := by rfl)
    (nc : starEach [.Name "list" n1, .Name "tuple" n2] X.env = (false, eval (.Name "list" n1) X.env) :: starEach [.Name "tuple" n2] X.env := by rfl) (nd : starEach [.Name "tuple" n2] X.env = (false, eval (.Name "tuple" n2) X.env) :: starEach [] X.env := by rfl)
    (hpl : (backTo pos (starEach [.Tuple [.Name "list" n1, .Name "tuple" n2] kt pt] X.env)).any (·.1) = false := by rfl) : PD X ρ (.Call (.Name "isinstance" p) [a, .Tuple [.Name "list" n1, .Name "tuple" n2] kt pt] [] pos) ρ1 (.bl true) := by
  rcases seq_ty hs with h | h
  · exact pd_isTT (v1 := false) (v2 := true) "list" "tuple" m m1 m2 PyProof.Rows.boot_list PyProof.Rows.boot_tuple ha h (by decide +kernel) (by decide +kernel) hg hg2 hg3 (by decide) (by decide) (by decide) (by decide) na nb nc nd hpl
  · exact pd_isTT (v1 := true) (v2 := false) "list" "tuple" m m1 m2 PyProof.Rows.boot_list PyProof.Rows.boot_tuple ha h (by decide +kernel) (by decide +kernel) hg hg2 hg3 (by decide) (by decide) (by decide) (by decide) na nb nc nd hpl
theorem no1 {ρ : List E} {n : Nat} (h : ρ[n]? = some E.no) : ∀ i ∈ [n], ρ[i]? = some E.no := fun i hi => by rw [List.mem_singleton.mp hi]; exact h
theorem no2 {ρ : List E} {n m : Nat} (h : ρ[n]? = some E.no) (k : ρ[m]? = some E.no) : ∀ i ∈ [n, m], ρ[i]? = some E.no := fun i hi => by
  rcases List.mem_cons.mp hi with rfl | hi
  · exact h
  · rw [List.mem_singleton.mp hi]; exact k
/-- a comprehension that gives the data ys, one for each of xs; nothing else changes -/
theorem lcr_to {X : Cx} {scope : Scope} {ρ ρ0 : List E} {tg iter elt : Expr} {xs : List D} (ys : List D) (hs : Src X tg iter ρ ρ0 xs) (js vs : List Nat) (hjs : ∀ j ∈ js, j ∈ vs) (hno : ∀ i ∈ vs, ρ0[i]? = some E.no) (hl : xs.length = ys.length) (hlen : xs.length < 100000)
    (turn : ∀ (k : Nat) d y, xs[k]? = some d → ys[k]? = some y → ∃ ρ1, GDb X scope tg js ρ0 d ρ1 ∧ PDb X scope ρ1 elt ρ1 y ∧ dropE js ρ1 = ρ0) : LcR X ρ elt tg iter [] scope vs ρ0 ys := by
  have h := lcr (ifs := []) (elt := elt) (scope := scope) hs (fun _ => ρ0) (fun k => ys.take k) js vs rfl rfl hjs (fun _ _ => hno) hlen (.inl rfl) fun k d hd => by
    have hk : k < ys.length := by rw [← hl]; exact (List.getElem?_eq_some_iff.mp hd).1
    obtain ⟨ρ1, h1, h2, h3⟩ := turn k d _ hd (List.getElem?_eq_getElem hk)
    refine ⟨ρ1, ρ1, true, h1, .inl ⟨rfl, rfl, rfl⟩, fun _ => ⟨ρ1, _, h2, h3, ?_⟩, fun z => by cases z⟩
    rw [List.take_add_one, List.getElem?_eq_getElem hk]; rfl
  rwa [hl, List.take_length] at h
section
variable {P : Program} {w : World} {K : PySem.W.Frag} {mg : Str → Option Value} {base : Heap}
/-! ### is_areas -/
def AreasOk (ar : List Nat) : Prop := 1 ≤ ar.length ∧ ar.length ≤ 24 ∧ ∀ a ∈ ar, 1 ≤ a ∧ a ≤ 1000
def RIsAreas (ds : List D) (r : D) : Prop := ∃ ar, ds = [.tup (ar.map nD)] ∧ AreasOk ar ∧ r = .bl true
abbrev C_is_areas (P : Program) (w : World) (K : PySem.W.Frag) (mg : Str → Option Value) (base : Heap) : Prop := Fn P w K mg base "is_areas" ["thing"] 2 (SpP ⟨P, w, K⟩ RIsAreas) []
theorem all_true (n : Nat) : (List.replicate n true).all id = true := by simp
theorem map_const {α : Type} (f : α → D) (b : Bool) (xs : List α) (h : ∀ x ∈ xs, f x = .bl b) : xs.map f = (List.replicate xs.length b).map D.bl := by
  apply List.ext_getElem?
  intro i
  rw [List.getElem?_map, List.getElem?_map]
  by_cases hi : i < xs.length
  · rw [List.getElem?_eq_getElem hi, List.getElem?_replicate, if_pos hi]
    show some (f xs[i]) = _
    rw [h _ (List.getElem_mem hi)]; rfl
  · rw [List.getElem?_eq_none (by omega), List.getElem?_eq_none (by simp; omega)]; rfl
theorem sc_is_areas : FnScope ["thing", "one"] ["thing"] (defScope s_is_areas) := ⟨rfl, rfl, rfl, by decide +kernel, rfl, by decide +kernel, by decide +kernel⟩
theorem fn_is_areas (T : Tx K mg) (F : Dfn K mg "is_areas" s_is_areas []) (Fis_whole : C_is_whole P w K mg base) : C_is_areas P w K mg base := by
  have sc := sc_is_areas
  refine F.fn (fun _ _ _ _ _ _ us hl => match us, hl with | [_], _ => rfl) fun f fd F => ?_
  refine fn_pure F sc (by rintro ds r ⟨_, rfl, _⟩; rfl) (by decide) fun cdv A outer s H ds r hr hR => ?_
  obtain ⟨ar, rfl, ⟨h1, h2, h3⟩, rfl⟩ := hR
  refine sds_cons (sd_ifF (pt_or2 (pt_not (pd_isT (v := true) "tuple" T.isinstance T.tuple PyProof.Rows.boot_tuple (pd_var 0 rfl) rfl (by decide +kernel)).t) (fun _ => (pt_not (pt_lele pd_int (pd_len T.len (pd_var 0 rfl) rfl) (pd_glob T.MOST_BASINS))))) ?_ (sds_nil ?_))
  · have e1 : (1 : Int) ≤ ((ar.map nD).length : Nat) := by rw [List.length_map]; omega
    have e2 : (((ar.map nD).length : Nat) : Int) ≤ 24 := by rw [List.length_map]; omega
    simp only [e1, e2, decide_true, Bool.and_self, Bool.not_true, Bool.or_self]
  refine sds_one (sd_ret (pd_all (ns := List.replicate (ar.map nD).length true) T.all (PD.is (PL.lst (pl_lc (own := [("one", 1)]) (lcr_map (src_tup (pd_var 0 rfl)) (fun _ => .bl true) [1] [1] (by decide) (no1 rfl) ?_ (fun d hd => ⟨_, fun _ _ _ _ _ => (gd_name 1 sc.nd), fun _ _ _ _ _ => ?_, rfl⟩)) sc.nd rfl)) ?_)) ?_)
  · rw [List.length_map]; omega
  · obtain ⟨a, ha, rfl⟩ := List.mem_map.mp hd
    obtain ⟨q1, q2⟩ := h3 a ha
    refine PD.is (pd_and2 (pd_call Fis_whole (hr.mono (by decide)) dfl_nil (pad_cons (pd_var 1 rfl) pad_nil) isWhole_int) (fun _ => (pd_lele pd_int (pd_var 1 rfl) (pd_glob T.MOST_AREA)))) ?_
    have e1 : (1 : Int) ≤ (a : Nat) := by omega
    have e2 : ((a : Nat) : Int) ≤ 1000 := by omega
    simp only [e1, e2, decide_true, Bool.not_false, Bool.and_self]
  · rw [map_const _ true _ fun _ _ => rfl]
  · rw [all_true]
/-! ### Row.__init__ -/
/-- the data stand for the numbers -/
def PartDs (ps : List D) (qs : List Rat) : Prop := ps.length = qs.length ∧ ∀ (i : Nat) d q, ps[i]? = some d → qs[i]? = some q → PartD d q
def RRowI (C : Addr) (o : O) (ds : List D) (o' : O) (r : D) : Prop := ∃ dx ar ps qs ld ls, o = .ins C dx [] [] ∧ ds = [.tup (ar.map nD), .tup ps, ld] ∧ AreasOk ar ∧ PartDs ps qs ∧ ps.length = ar.length ∧ (∀ q ∈ qs, 0 ≤ q) ∧ seqD ld = some (ls.map nD) ∧ ls.length < 64 ∧ (∀ l ∈ ls, 1 ≤ l ∧ l < ar.length) ∧
  o' = .ins C dx ["areas", "volumes", "locks"] [.tup (ar.map nD), .tup (qs.map qd), .tup ((normN ls).map nD)] ∧ r = .non
abbrev C_Row3 (P : Program) (w : World) (K : PySem.W.Frag) (mg : Str → Option Value) (base : Heap) : Prop := Mc P w K mg base "Row" (cA K "Row") ["self", "areas", "volumes", "locks"] 4 (SpO ⟨P, w, K⟩ (RRowI (cA K "Row"))) []
abbrev C_Row2 (P : Program) (w : World) (K : PySem.W.Frag) (mg : Str → Option Value) (base : Heap) (dv : V) : Prop := Mc P w K mg base "Row" (cA K "Row") ["self", "areas", "volumes", "locks"] 4 (SpO ⟨P, w, K⟩ (RRowI (cA K "Row"))) [dv]
theorem sc_Row___init__ : FnScope ["self", "areas", "volumes", "locks", "one", "lock"] ["self", "areas", "volumes", "locks"] (defScope s_Row___init__) := ⟨rfl, rfl, rfl, by decide +kernel, rfl, by decide +kernel, by decide +kernel⟩
theorem ok_Row_init (T : Tx K mg) {f : Addr} {fd : FuncData} {dvs : List V} (F : FunD K "__init__" "Row.__init__" (defArgs s_Row___init__) (defBody s_Row___init__) (defScope s_Row___init__) dvs [] f fd) (Fis_whole : C_is_whole P w K mg base) (Fis_areas : C_is_areas P w K mg base) (Fis_part : C_is_part P w K mg base) (Fas_part : C_as_part P w K mg base) :
    FnOk P w K mg base CX0 4 f fd ["self", "areas", "volumes", "locks"] (SpO ⟨P, w, K⟩ (RRowI (cA K "Row"))) := by
  have sc := sc_Row___init__
  refine fn_own F sc (by rintro o ds o' r ⟨_, _, _, _, _, _, _, rfl, _⟩; rfl) (by decide) fun cdv A outer s H l o ds o' r hr hR => ?_
  obtain ⟨dx, ar, ps, qs, ld, ls, rfl, rfl, ha, ⟨hp1, hp2⟩, hlen, hnn, hls, h64, hlr, rfl, rfl⟩ := hR
  have a1 := ha.1
  have a2 := ha.2.1
  have hpart : ∀ d ∈ ps, ∃ q, PartD d q ∧ 0 ≤ q := fun d hd => by
    obtain ⟨i, hi⟩ := List.getElem?_of_mem hd
    have hi' : i < qs.length := by rw [← hp1]; exact (List.getElem?_eq_some_iff.mp hi).1
    exact ⟨qs[i], hp2 i d _ hi (List.getElem?_eq_getElem hi'), hnn _ (List.getElem_mem hi')⟩
  refine sds_cons (sd_ifF (v := false) (PTD.is (pt_or3 (pt_not (pd_call (r := .bl true) Fis_areas (hr.mono (by decide)) dfl_nil (pad_cons (pd_var 1 rfl) pad_nil) ⟨ar, rfl, ha, rfl⟩).t) (fun _ => (pt_not (pd_isT (v := true) "tuple" T.isinstance T.tuple PyProof.Rows.boot_tuple (pd_var 2 rfl) rfl (by decide +kernel)).t)) (fun _ _ => (pt_ne (pd_len T.len (pd_var 2 rfl) rfl) (pd_len T.len (pd_var 1 rfl) rfl)))) ?_) rfl (sds_nil ?_))
  · rw [List.length_map, hlen]; simp
  refine sds_cons (sd_ifF (v := false) (pt_not (pd_all (ns := List.replicate ps.length true) T.all (PD.is (PL.lst (pl_lc (own := [("one", 4)]) (lcr_map (src_tup (pd_var 2 rfl)) (fun _ => .bl true) [4] [4] (by decide) (no1 rfl) ?_ (fun d hd => ⟨_, fun _ _ _ _ _ => (gd_name 4 sc.nd), fun _ _ _ _ _ => ?_, rfl⟩)) sc.nd rfl)) ?_)).t |>.is ?_) rfl (sds_nil ?_))
  · omega
  · obtain ⟨q, hq, h0⟩ := hpart d hd
    refine PD.is (pd_and2 (pd_call Fis_part (hr.mono (by decide)) dfl_nil (pad_cons (pd_var 4 rfl) pad_nil) ⟨_, q, rfl, hq, rfl⟩) (fun _ => (pd_ge (pd_at (d := .int q.num) (pd_call (r := qd q) Fas_part (hr.mono (by decide)) dfl_nil (pad_cons (pd_var 4 rfl) pad_nil) ⟨_, q, rfl, hq, rfl⟩) pd_int rfl) pd_int))) ?_
    have : 0 ≤ q.num := Rat.num_nonneg.mpr h0
    simp [this]
  · rw [map_const _ true _ fun _ _ => rfl]
  · rw [all_true]; rfl
  refine sds_cons (sd_ifF (v := false) (pt_not (pd_isSeq T.isinstance T.list T.tuple (pd_var 3 rfl) hls).t) rfl (sds_nil ?_))
  refine sds_cons (sd_fld 0 rfl (pd_var 1 rfl) rfl (by decide) (by decide) T.clRow T.noRow_areas ?_)
  refine sds_cons (sd_fld 0 rfl (pd_tuple (x := .lst (qs.map qd)) T.tuple (PL.lst (pl_lc (own := [("one", 4)]) (lcr_to (qs.map qd) (src_tup (pd_var 2 rfl)) [4] [4] (by decide) (no1 rfl) ?_ ?_ (fun k d y hd hy => ⟨_, fun _ _ _ _ _ => (gd_name 4 sc.nd), fun _ _ _ _ _ => ?_, rfl⟩)) sc.nd rfl)) rfl) rfl (by decide) (by decide) T.clRow T.noRow_volumes ?_)
  · rw [List.length_map]; exact hp1
  · omega
  · rw [List.getElem?_map] at hy
    obtain ⟨q, hq, rfl⟩ := Option.map_eq_some_iff.mp hy
    exact pd_call Fas_part (hr.mono (by decide)) dfl_nil (pad_cons (pd_var 4 rfl) pad_nil) ⟨_, q, rfl, hp2 k d q hd hq, rfl⟩
  refine sds_cons (sd_for (fun k ρ => ∃ e, ρ = [.own l (.ins (cA K "Row") dx ["areas", "volumes"] [.tup (ar.map nD), .tup (qs.map qd)]), .d (.tup (ar.map nD)), .d (.tup ps), .d ld, .no, e]) (src_seq (pd_var 3 rfl) hls) ⟨_, rfl⟩ (fun k d ρ hd hI => ?_) (fun ρ hI => ?_))
  · obtain ⟨e, rfl⟩ := hI
    rw [List.getElem?_map] at hd
    obtain ⟨x, hx, rfl⟩ := Option.map_eq_some_iff.mp hd
    obtain ⟨b1, b2⟩ := hlr x (List.mem_of_getElem? hx)
    refine ⟨_, _, (gd_name 5 sc.nd), ?_⟩
    refine sds_one (sd_ifF (v := false) (PTD.is (pt_or2 (pt_not (pd_call Fis_whole (hr.mono (by decide)) dfl_nil (pad_cons (pd_var 5 rfl) pad_nil) isWhole_int).t) (fun _ => (pt_not (pt_lelt pd_int (pd_var 5 rfl) (pd_len T.len (pd_var 1 rfl) rfl))))) ?_) rfl (sds_nil ⟨_, rfl⟩))
    have e1 : (1 : Int) ≤ (x : Nat) := by omega
    have e2 : ((x : Nat) : Int) < ((ar.map nD).length : Nat) := by rw [List.length_map]; omega
    simp only [e1, e2, decide_true, Bool.and_self, Bool.not_true, Bool.or_self]
  · obtain ⟨e, rfl⟩ := hI
    refine SDs.drop 5 ?_
    rw [nD_map] at hls
    refine sds_one (sd_fld 0 rfl (pd_tuple T.tuple (PL.lst (pl_sortK (is := ls.map Int.ofNat) T.sorted (src_seq (pd_var 3 rfl) hls) [5] (by decide) (no1 rfl) ?_ (fun i hi => ⟨_, .bl true, fun _ _ _ _ _ => gd_name 5 sc.nd, fun _ _ _ _ _ => pd_var 5 rfl, fun _ _ _ _ _ => pd_bl, rfl⟩) sc.nd (own := [("lock", 5)]) rfl)) rfl) rfl (by decide) (by decide) T.clRow T.noRow_locks ?_)
    · rw [List.length_map]; exact h64
    · refine ⟨rfl, ?_⟩
      rw [← normN_ofNat, ← nD_map]; rfl
theorem mc_Row3 (T : Tx K mg) {dv : V} (F : Cdf K mg "Row" "Row.__init__" s_Row___init__ [dv]) (Fis_whole : C_is_whole P w K mg base) (Fis_areas : C_is_areas P w K mg base) (Fis_part : C_is_part P w K mg base) (Fas_part : C_as_part P w K mg base) : C_Row3 P w K mg base :=
  F.mcd 4 1 (by simp) rfl (fun _ _ _ _ _ _ _ us its h1 h2 => match us, its, h1, h2 with | [_, _, _, _], [_], _, _ => ⟨_, rfl, rfl⟩) fun f fd F => ok_Row_init T F Fis_whole Fis_areas Fis_part Fas_part
theorem mc_Row2 (T : Tx K mg) {dv : V} (F : Cdf K mg "Row" "Row.__init__" s_Row___init__ [dv]) (Fis_whole : C_is_whole P w K mg base) (Fis_areas : C_is_areas P w K mg base) (Fis_part : C_is_part P w K mg base) (Fas_part : C_as_part P w K mg base) : C_Row2 P w K mg base dv :=
  F.mcd 3 0 (by simp) rfl (fun _ _ _ _ _ _ _ us its h1 h2 => match us, its, h1, h2 with | [_, _, _], [_], _, _ => ⟨_, rfl, rfl⟩) fun f fd F => ok_Row_init T F Fis_whole Fis_areas Fis_part Fas_part
end
end WL
set_option Elab.async false
set_option linter.all false
set_option maxRecDepth 100000
set_option maxHeartbeats 4000000
namespace WL
open PySem PySem.Spec PyProof.Rows L2
theorem bd_sm {D M : Nat} {q : Rat} (h : Bd D M q) (h0 : 0 < D) (h1 : D < 2 ^ 4400) (h2 : M * D < 2 ^ 400000) : Sm q := h.sm h0 h1 h2
theorem sm_den {q : Rat} (h : Sm q) : q.den < 2 ^ 9000 := Nat.lt_of_lt_of_le h.2 (Nat.pow_le_pow_right (Nat.zero_lt_succ 1) (by omega))
theorem partDs_qd {qs : List Rat} (h : ∀ q ∈ qs, Sm q) : PartDs (qs.map qd) qs := ⟨List.length_map .., fun i d q hd hq => by
  rw [List.getElem?_map, hq] at hd
  cases hd
  exact partD_qd (sm_den (h q (List.mem_of_getElem? hq)))⟩
section
variable {P : Program} {w : World} {K : PySem.W.Frag} {mg : Str → Option Value} {base : Heap}
abbrev RM (P : Program) (w : World) (K : PySem.W.Frag) (mg : Str → Option Value) (base : Heap) (m : Str) (ps : List Str) (k : Nat) (R : List D → D → Prop) : Prop := Me P w K mg base (cA K "Row") m ps k (SpP ⟨P, w, K⟩ R) []
/-! ### len, in, weirs -/
def RRowLen (K : PySem.W.Frag) (ds : List D) (r : D) : Prop := ∃ x, ds = [rowD K x] ∧ r = .int (x.ar.length : Nat)
abbrev M_len (P : Program) (w : World) (K : PySem.W.Frag) (mg : Str → Option Value) (base : Heap) : Prop := RM P w K mg base "__len__" ["self"] 1 (RRowLen K)
theorem sc_Row___len__ : FnScope ["self"] ["self"] (defScope s_Row___len__) := ⟨rfl, rfl, rfl, by decide +kernel, rfl, by decide +kernel, by decide +kernel⟩
theorem me_len (T : Tx K mg) (F : Mdf K (cA K "Row") "__len__" "Row.__len__" s_Row___len__ []) : M_len P w K mg base := by
  have sc := sc_Row___len__
  refine F.me T.clRow (fun _ _ _ _ _ _ us hl => match us, hl with | [_], _ => rfl) fun f fd F => ?_
  refine fn_pure F sc (by rintro ds r ⟨_, rfl, _⟩; rfl) (by decide) fun cdv A outer s H ds r hr hR => ?_
  obtain ⟨x, rfl, rfl⟩ := hR
  exact sds_one (sd_ret (pd_len T.len (pd_fld (pd_var 0 rfl) T.clRow T.noRow_areas rfl) rfl) (by rw [List.length_map]))
def RRowIn (K : PySem.W.Frag) (ds : List D) (r : D) : Prop := ∃ x k, ds = [rowD K x, nD k] ∧ k ∈ weirsOf x ∧ r = .bl true
abbrev M_in (P : Program) (w : World) (K : PySem.W.Frag) (mg : Str → Option Value) (base : Heap) : Prop := RM P w K mg base "__contains__" ["self", "weir"] 1 (RRowIn K)
theorem sc_Row___contains__ : FnScope ["self", "weir"] ["self", "weir"] (defScope s_Row___contains__) := ⟨rfl, rfl, rfl, by decide +kernel, rfl, by decide +kernel, by decide +kernel⟩
theorem me_in (T : Tx K mg) (F : Mdf K (cA K "Row") "__contains__" "Row.__contains__" s_Row___contains__ []) : M_in P w K mg base := by
  have sc := sc_Row___contains__
  refine F.me T.clRow (fun _ _ _ _ _ _ us hl => match us, hl with | [_, _], _ => rfl) fun f fd F => ?_
  refine fn_pure F sc (by rintro ds r ⟨_, _, rfl, _⟩; rfl) (by decide) fun cdv A outer s H ds r hr hR => ?_
  obtain ⟨x, k, rfl, hk, rfl⟩ := hR
  obtain ⟨h1, h2, h3⟩ := mem_weirs.mp hk
  refine sds_one (sd_ret (pd_and2 (pd_inR T.range (pd_var 1 rfl) pd_int (pd_len T.len (pd_fld (pd_var 0 rfl) T.clRow T.noRow_areas rfl) rfl)) (fun _ => (pd_notInS (is := x.lk.map Int.ofNat) (pd_var 1 rfl) (pd_fld (pd_var 0 rfl) T.clRow T.noRow_locks rfl) (by rw [← nD_map]; rfl)))) ?_)
  have e1 : (1 : Int) ≤ (k : Nat) ∧ ((k : Nat) : Int) < ((x.ar.map nD).length : Nat) := by rw [List.length_map]; omega
  have e2 : ¬ ((k : Int) ∈ x.lk.map Int.ofNat) := fun z => h3 (mem_ofNat.mp z)
  simp only [e1, e2, and_self, decide_true, decide_false, Bool.not_false, Bool.and_self]
def RRowWeirs (K : PySem.W.Frag) (ds : List D) (r : D) : Prop := ∃ x, ds = [rowD K x] ∧ x.ar.length ≤ 24 ∧ r = .lst ((weirsOf x).map nD)
abbrev M_weirs (P : Program) (w : World) (K : PySem.W.Frag) (mg : Str → Option Value) (base : Heap) : Prop := RM P w K mg base "weirs" ["self"] 1 (RRowWeirs K)
theorem rg_nD (lo n : Nat) : rgFrom (lo : Int) n = ((List.range n).map fun i => lo + i).map nD := by
  unfold rgFrom
  rw [List.map_map]
  apply List.map_congr_left
  intro i _
  show D.int _ = D.int _
  congr 1
theorem filter_nD (t : D → Bool) (p : Nat → Bool) (h : ∀ k, t (nD k) = p k) (xs : List Nat) : ((xs.map nD).filter t).map id = (xs.filter p).map nD := by
  rw [List.map_id, List.filter_map]
  congr 1
  apply List.filter_congr
  intro k _
  exact h k
theorem sc_Row_weirs : FnScope ["self", "weir"] ["self"] (defScope s_Row_weirs) := ⟨rfl, rfl, rfl, by decide +kernel, rfl, by decide +kernel, by decide +kernel⟩
theorem me_weirs (T : Tx K mg) (F : Mdf K (cA K "Row") "weirs" "Row.weirs" s_Row_weirs []) : M_weirs P w K mg base := by
  have sc := sc_Row_weirs
  refine F.me T.clRow (fun _ _ _ _ _ _ us hl => match us, hl with | [_], _ => rfl) fun f fd F => ?_
  refine fn_pure F sc (by rintro ds r ⟨_, rfl, _⟩; rfl) (by decide) fun cdv A outer s H ds r hr hR => ?_
  obtain ⟨x, rfl, hm, rfl⟩ := hR
  have hlen : (((x.ar.map nD).length : Nat) : Int) = (x.ar.length : Nat) := by rw [List.length_map]
  refine sds_one (sd_ret (PL.lst (pl_lc (own := [("weir", 1)]) (lcr_filter (src_range2 T.range pd_int (PD.is (pd_len T.len (pd_fld (pd_var 0 rfl) T.clRow T.noRow_areas rfl) rfl) (by rw [hlen])) ?_) id (fun d => match d with | .int i => !decide (i ∈ x.lk.map Int.ofNat) | _ => false) [1] [1] (by decide) (no1 rfl) ?_ (fun d hd => ?_)) sc.nd rfl)) ?_)
  · omega
  · rw [rgFrom_len]; omega
  · obtain ⟨i, _, rfl⟩ := List.mem_map.mp hd
    exact ⟨_, fun _ _ _ _ _ => (gd_name 1 sc.nd), fun _ _ _ _ _ => (pt_notInS (is := x.lk.map Int.ofNat) (pd_var 1 rfl) (pd_fld (pd_var 0 rfl) T.clRow T.noRow_locks rfl) (by rw [← nD_map]; rfl)), fun ht _ _ _ _ _ => (pd_var 1 rfl), rfl⟩
  · have e : ((x.ar.length : Nat) - 1 : Int).toNat = x.ar.length - 1 := by omega
    rw [e]
    have := rg_nD 1 (x.ar.length - 1)
    rw [show ((1 : Nat) : Int) = 1 from rfl] at this
    rw [this, filter_nD _ (fun k => !decide (k ∈ x.lk)) fun k => ?_]
    · rfl
    · show (!decide ((k : Int) ∈ x.lk.map Int.ofNat)) = !decide (k ∈ x.lk)
      rw [decide_eq_decide.mpr mem_ofNat]
/-! ### sums, reaches -/
def RRowSums (K : PySem.W.Frag) (ds : List D) (r : D) : Prop := ∃ x, ds = [rowD K x] ∧ x.vo.length ≤ 1000 ∧ (∀ q ∈ x.vo, Sm q) ∧ SmSums x.vo ∧ r = .lst ((psums x.vo).map qd)
abbrev M_sums (P : Program) (w : World) (K : PySem.W.Frag) (mg : Str → Option Value) (base : Heap) : Prop := RM P w K mg base "sums" ["self"] 4 (RRowSums K)
theorem psums_take (qs : List Rat) (k : Nat) (h : k ≤ qs.length) : (psums qs).take (k + 1) = (List.range (k + 1)).map fun k => sumQ (qs.take k) := by
  unfold psums
  rw [← List.map_take, List.take_range, Nat.min_eq_left (by omega)]
theorem psums_last (qs : List Rat) (k : Nat) : ((List.range (k + 1)).map fun k => sumQ (qs.take k)).getLast? = some (sumQ (qs.take k)) := by
  rw [List.range_succ, List.map_append, List.map_cons, List.map_nil, List.getLast?_concat]
theorem sc_Row_sums : FnScope ["self", "found", "volume"] ["self"] (defScope s_Row_sums) := ⟨rfl, rfl, rfl, by decide +kernel, rfl, by decide +kernel, by decide +kernel⟩
theorem me_sums (T : Tx K mg) (F : Mdf K (cA K "Row") "sums" "Row.sums" s_Row_sums []) (Fplus : C_plus P w K mg base) : M_sums P w K mg base := by
  have sc := sc_Row_sums
  refine F.me T.clRow (fun _ _ _ _ _ _ us hl => match us, hl with | [_], _ => rfl) fun f fd F => ?_
  refine fn_pure F sc (by rintro ds r ⟨_, rfl, _⟩; rfl) (by decide) fun cdv A outer s H ds r hr hR => ?_
  obtain ⟨x, rfl, h1, hs, hss, rfl⟩ := hR
  refine sds_cons (sd_asgL 1 (pl_lst (pad_cons (pd_tup (pad_cons pd_int (pad_cons pd_int pad_nil)) (lenOk rfl)) pad_nil) (lenOk rfl)) (fun l => ?_) sc.nd)
  refine sds_cons (sd_for (fun k ρ => ∃ e, ρ = [.d (rowD K x), .own l (.lst (((List.range (k + 1)).map fun k => sumQ (x.vo.take k)).map qd)), e]) (src_tup (pd_fld (pd_var 0 rfl) T.clRow T.noRow_volumes rfl)) ⟨_, rfl⟩ (fun k d ρ hd hI => ?_) (fun ρ hI => ?_))
  · obtain ⟨e, rfl⟩ := hI
    rw [List.getElem?_map] at hd
    obtain ⟨v, hv, rfl⟩ := Option.map_eq_some_iff.mp hd
    have hk := (List.getElem?_eq_some_iff.mp hv).1
    refine ⟨_, _, (gd_name 2 sc.nd), ?_⟩
    refine sds_one (sd_append 1 rfl (pd_call Fplus (hr.mono (by decide)) dfl_nil (pad_cons (pd_atO (d := qd (sumQ (x.vo.take k))) 1 rfl (pd_neg pd_int) ?_ rfl) (pad_cons (pd_var 2 rfl) pad_nil)) ⟨_, _, rfl, hss k, hs v (List.mem_of_getElem? hv), rfl⟩) rfl ?_ ⟨E.d (qd v), ?_⟩)
    · exact atI_map (atI_last (psums_last _ _))
    · rw [List.length_map, List.length_map, List.length_range]; omega
    · have : sumQ (x.vo.take (k + 1)) = sumQ (x.vo.take k) + v := foldl_take_succ _ _ hv
      rw [List.range_succ (n := k + 1), List.map_append, List.map_append, List.map_cons, List.map_cons, this]
      rfl
  · obtain ⟨e, rfl⟩ := hI
    refine sds_one (sd_ret (pd_frz 1 rfl) ?_)
    rw [List.length_map]; rfl
def RRowReaches (K : PySem.W.Frag) (ds : List D) (r : D) : Prop := ∃ x, ds = [rowD K x] ∧ x.ar.length ≤ 1000 ∧ r = .lst ((nsums x.ar).map nD)
abbrev M_reaches (P : Program) (w : World) (K : PySem.W.Frag) (mg : Str → Option Value) (base : Heap) : Prop := RM P w K mg base "reaches" ["self"] 1 (RRowReaches K)
theorem nsums_last (qs : List Nat) (k : Nat) : ((List.range (k + 1)).map fun k => (qs.take k).sum).getLast? = some (qs.take k).sum := by
  rw [List.range_succ, List.map_append, List.map_cons, List.map_nil, List.getLast?_concat]
theorem sum_take_succ {xs : List Nat} {k : Nat} {x : Nat} (h : xs[k]? = some x) : (xs.take (k + 1)).sum = (xs.take k).sum + x := by
  rw [List.take_add_one, h, List.sum_append]; simp
theorem sc_Row_reaches : FnScope ["self", "found", "area"] ["self"] (defScope s_Row_reaches) := ⟨rfl, rfl, rfl, by decide +kernel, rfl, by decide +kernel, by decide +kernel⟩
theorem me_reaches (T : Tx K mg) (F : Mdf K (cA K "Row") "reaches" "Row.reaches" s_Row_reaches []) : M_reaches P w K mg base := by
  have sc := sc_Row_reaches
  refine F.me T.clRow (fun _ _ _ _ _ _ us hl => match us, hl with | [_], _ => rfl) fun f fd F => ?_
  refine fn_pure F sc (by rintro ds r ⟨_, rfl, _⟩; rfl) (by decide) fun cdv A outer s H ds r hr hR => ?_
  obtain ⟨x, rfl, h1, rfl⟩ := hR
  refine sds_cons (sd_asgL 1 (pl_lst (pad_cons pd_int pad_nil) (lenOk rfl)) (fun l => ?_) sc.nd)
  refine sds_cons (sd_for (fun k ρ => ∃ e, ρ = [.d (rowD K x), .own l (.lst (((List.range (k + 1)).map fun k => (x.ar.take k).sum).map nD)), e]) (src_tup (pd_fld (pd_var 0 rfl) T.clRow T.noRow_areas rfl)) ⟨_, rfl⟩ (fun k d ρ hd hI => ?_) (fun ρ hI => ?_))
  · obtain ⟨e, rfl⟩ := hI
    rw [List.getElem?_map] at hd
    obtain ⟨v, hv, rfl⟩ := Option.map_eq_some_iff.mp hd
    have hk := (List.getElem?_eq_some_iff.mp hv).1
    refine ⟨_, _, (gd_name 2 sc.nd), ?_⟩
    refine sds_one (sd_append 1 rfl (pd_add (pd_atO (d := nD (x.ar.take k).sum) 1 rfl (pd_neg pd_int) ?_ rfl) (pd_var 2 rfl)) rfl ?_ ⟨E.d (nD v), ?_⟩)
    · exact atI_map (atI_last (nsums_last _ _))
    · rw [List.length_map, List.length_map, List.length_range]; omega
    · rw [List.range_succ (n := k + 1), List.map_append, List.map_append, List.map_cons, List.map_cons, sum_take_succ hv]
      rfl
  · obtain ⟨e, rfl⟩ := hI
    refine sds_one (sd_ret (pd_frz 1 rfl) ?_)
    rw [List.length_map]; rfl
/-! ### check_weir, with_volumes, opened -/
def RCheckWeir (K : PySem.W.Frag) (ds : List D) (r : D) : Prop := ∃ x k, ds = [rowD K x, nD k] ∧ k ∈ weirsOf x ∧ r = .non
abbrev M_check_weir (P : Program) (w : World) (K : PySem.W.Frag) (mg : Str → Option Value) (base : Heap) : Prop := RM P w K mg base "check_weir" ["self", "weir"] 2 (RCheckWeir K)
theorem sc_Row_check_weir : FnScope ["self", "weir"] ["self", "weir"] (defScope s_Row_check_weir) := ⟨rfl, rfl, rfl, by decide +kernel, rfl, by decide +kernel, by decide +kernel⟩
theorem me_check_weir (T : Tx K mg) (F : Mdf K (cA K "Row") "check_weir" "Row.check_weir" s_Row_check_weir []) (Fis_whole : C_is_whole P w K mg base) : M_check_weir P w K mg base := by
  have sc := sc_Row_check_weir
  refine F.me T.clRow (fun _ _ _ _ _ _ us hl => match us, hl with | [_, _], _ => rfl) fun f fd F => ?_
  refine fn_pure F sc (by rintro ds r ⟨_, _, rfl, _⟩; rfl) (by decide) fun cdv A outer s H ds r hr hR => ?_
  obtain ⟨x, k, rfl, hk, rfl⟩ := hR
  obtain ⟨h1, h2, h3⟩ := mem_weirs.mp hk
  refine sds_one (sd_ifF (v := false) (PTD.is (pt_or3 (pt_not (pd_call Fis_whole (hr.mono (by decide)) dfl_nil (pad_cons (pd_var 1 rfl) pad_nil) isWhole_int).t) (fun _ => (pt_not (pt_lelt pd_int (pd_var 1 rfl) (pd_len T.len (pd_fld (pd_var 0 rfl) T.clRow T.noRow_areas rfl) rfl)))) (fun _ _ => (pt_inS (is := x.lk.map Int.ofNat) (pd_var 1 rfl) (pd_fld (pd_var 0 rfl) T.clRow T.noRow_locks rfl) (by rw [← nD_map]; rfl)))) ?_) rfl (sds_nil rfl))
  have e1 : (1 : Int) ≤ (k : Nat) := by omega
  have e3 : ((k : Nat) : Int) < ((x.ar.map nD).length : Nat) := by rw [List.length_map]; omega
  have e2 : ¬ ((k : Int) ∈ x.lk.map Int.ofNat) := fun z => h3 (mem_ofNat.mp z)
  simp only [e1, e2, e3, decide_true, decide_false, Bool.not_true, Bool.and_self, Bool.or_self]
def RWithV (K : PySem.W.Frag) (ds : List D) (r : D) : Prop := ∃ x vd ps qs, ds = [rowD K x, vd] ∧ RowOk x ∧ seqD vd = some ps ∧ PartDs ps qs ∧ qs.length = x.ar.length ∧ (∀ q ∈ qs, 0 ≤ q) ∧ r = rowD K { x with vo := qs }
abbrev M_with_volumes (P : Program) (w : World) (K : PySem.W.Frag) (mg : Str → Option Value) (base : Heap) : Prop := RM P w K mg base "with_volumes" ["self", "volumes"] 6 (RWithV K)
theorem RowOk.areas {x : Rw} (h : RowOk x) : AreasOk x.ar := ⟨h.pos, h.most, h.ar⟩
theorem RowOk.lk64 {x : Rw} (h : RowOk x) : x.lk.length < 64 := by
  have := sorted_len h.srt fun l hl => (h.lk l hl).2
  have := h.most
  omega
theorem sc_Row_with_volumes : FnScope ["self", "volumes"] ["self", "volumes"] (defScope s_Row_with_volumes) := ⟨rfl, rfl, rfl, by decide +kernel, rfl, by decide +kernel, by decide +kernel⟩
theorem me_with_volumes (T : Tx K mg) (F : Mdf K (cA K "Row") "with_volumes" "Row.with_volumes" s_Row_with_volumes []) (FRow : C_Row3 P w K mg base) : M_with_volumes P w K mg base := by
  have sc := sc_Row_with_volumes
  refine F.me T.clRow (fun _ _ _ _ _ _ us hl => match us, hl with | [_, _], _ => rfl) fun f fd F => ?_
  refine fn_pure F sc (by rintro ds r ⟨_, _, _, _, rfl, _⟩; rfl) (by decide) fun cdv A outer s H ds r hr hR => ?_
  obtain ⟨x, vd, ps, qs, rfl, hx, hv, hp, hl, hn, rfl⟩ := hR
  refine sds_one (sd_ret (pd_make FRow (hr.mono (by decide)) dfl_nil (pad_cons (pd_fld (pd_var 0 rfl) T.clRow T.noRow_areas rfl) (pad_cons (pd_tuple T.tuple (pd_var 1 rfl) hv) (pad_cons (pd_fld (pd_var 0 rfl) T.clRow T.noRow_locks rfl) pad_nil))) (fun dx => ⟨dx, x.ar, ps, qs, _, x.lk, rfl, rfl, hx.areas, hp, by rw [hp.1, hl], hn, rfl, hx.lk64, hx.lk, rfl, rfl⟩)) ?_)
  rw [normN_id hx.srt]
  rfl
end
end WL
set_option Elab.async false
set_option linter.all false
set_option maxRecDepth 100000
set_option maxHeartbeats 4000000
namespace WL
open PySem PySem.Spec PyProof.Rows L2
/-- the room for one opening -/
structure OpSz (vo : List Rat) (s : Rat) (Dn M Ds : Nat) : Prop where
  vo : ∀ q ∈ vo, Bd Dn M q
  s : Bd Ds 1 s
  d0 : 0 < Dn
  s0 : 0 < Ds
  d : Dn * 2000 * Ds < 2 ^ 4400
  m : M * 6 * (Dn * 2000 * Ds) < 2 ^ 400000
theorem frac_eq (a b : Nat) : Rat.divInt (a : Int) ((a : Int) + (b : Int)) = (a : Rat) / ((a + b : Nat) : Rat) := by
  rw [Rat.divInt_eq_div]
  push_cast
  rfl
theorem Bd.pos_sm {D M : Nat} {q : Rat} {N : Nat} (h : Bd D M q) (h0 : 0 < D) (hd : D ≤ N) (hN : N < 2 ^ 4400) (hm : M * N < 2 ^ 400000) : Sm q :=
  h.sm h0 (Nat.lt_of_le_of_lt hd hN) (Nat.lt_of_le_of_lt (Nat.mul_le_mul_left M hd) hm)
/-- the numbers of one opening -/
structure OpOk (x y p s : Rat) (Dn M Ds a b : Nat) : Prop where
  sx : Sm x
  sy : Sm y
  sp : Sm p
  ss : Sm s
  both : Sm (x + y)
  even : Sm ((x + y) * p)
  diff : Sm ((x + y) * p - x)
  moved : Sm (((x + y) * p - x) * s)
  first : Sm (x + ((x + y) * p - x) * s)
  last : Sm (x + y - (x + ((x + y) * p - x) * s))
  bf : Bd (Dn * (a + b) * Ds) (M * 6) (x + ((x + y) * p - x) * s)
  bl : Bd (Dn * (a + b) * Ds) (M * 6) (x + y - (x + ((x + y) * p - x) * s))
theorem op_ok {vo : List Rat} {s x y : Rat} {Dn M Ds a b : Nat} (h : OpSz vo s Dn M Ds) (hx : x ∈ vo) (hy : y ∈ vo) (ha : 1 ≤ a ∧ a ≤ 1000) (hb : 1 ≤ b ∧ b ≤ 1000) : OpOk x y ((a : Rat) / ((a + b : Nat) : Rat)) s Dn M Ds a b := by
  have bx := h.vo x hx
  have bY := h.vo y hy
  have hN := h.d
  have hM := h.m
  have d0 := h.d0
  have s0 := h.s0
  generalize hN' : Dn * 2000 * Ds = N at hN hM
  have e1 : Dn ≤ N := by rw [← hN', Nat.mul_assoc]; exact Nat.le_mul_of_pos_right _ (Nat.mul_pos (by decide) s0)
  have e2 : Dn * (a + b) ≤ N := by
    rw [← hN']
    exact Nat.le_trans (Nat.mul_le_mul_left Dn (show a + b ≤ 2000 by omega)) (Nat.le_mul_of_pos_right _ s0)
  have e3 : Dn * (a + b) * Ds ≤ N := by
    rw [← hN']
    exact Nat.mul_le_mul_right Ds (Nat.mul_le_mul_left Dn (show a + b ≤ 2000 by omega))
  have e4 : Ds ≤ N := by rw [← hN']; exact Nat.le_mul_of_pos_left _ (Nat.mul_pos d0 (by decide))
  have e5 : a + b ≤ N := Nat.le_trans (show a + b ≤ 2000 by omega) (by rw [← hN']; exact Nat.le_trans (Nat.le_mul_of_pos_left _ d0) (Nat.le_mul_of_pos_right _ s0))
  have bp : Bd (a + b) 1 ((a : Rat) / ((a + b : Nat) : Rat)) := by
    have := bd_frac (a := (a : Int)) (b := ((a + b : Nat) : Int)) (by omega) (by omega) (by omega)
    rw [Int.toNat_natCast, Rat.intCast_natCast, Rat.intCast_natCast] at this
    exact this
  have p0 : 0 < Dn * (a + b) := Nat.mul_pos d0 (by omega)
  have p1 : 0 < Dn * (a + b) * Ds := Nat.mul_pos p0 s0
  have mm : ∀ m, m ≤ M * 6 → m * N < 2 ^ 400000 := fun m hm => Nat.lt_of_le_of_lt (Nat.mul_le_mul_right N hm) hM
  have hone : ∀ m : Nat, m ≤ 1 → m * N < 2 ^ 400000 := fun m hm => by
    refine Nat.lt_of_le_of_lt (show m * N ≤ 1 * N from Nat.mul_le_mul_right N hm) ?_
    rw [Nat.one_mul]
    exact Nat.lt_of_lt_of_le hN (Nat.pow_le_pow_right (by decide) (by decide))
  have b1 : Bd Dn (M + M) (x + y) := bx.add bY
  have b2 := b1.mul bp
  rw [Nat.mul_one] at b2
  have b3 := b2.sub (bx.wide (E := a + b))
  have b4 := b3.mul h.s
  rw [Nat.mul_one] at b4
  have bx2 : Bd (Dn * (a + b) * Ds) M x := (bx.wide (E := a + b)).wide (E := Ds)
  have b5 := bx2.add b4
  have b12 : Bd (Dn * (a + b) * Ds) (M + M) (x + y) := (b1.wide (E := a + b)).wide (E := Ds)
  have b6 := b12.sub b5
  exact ⟨bx.pos_sm d0 e1 hN (mm _ (by omega)), bY.pos_sm d0 e1 hN (mm _ (by omega)), bp.pos_sm (by omega) e5 hN (hone _ (Nat.le_refl _)), h.s.pos_sm s0 e4 hN (hone _ (Nat.le_refl _)), b1.pos_sm d0 e1 hN (mm _ (by omega)), b2.pos_sm p0 e2 hN (mm _ (by omega)),
    b3.pos_sm p0 e2 hN (mm _ (by omega)), b4.pos_sm p1 e3 hN (mm _ (by omega)), b5.pos_sm p1 e3 hN (mm _ (by omega)), b6.pos_sm p1 e3 hN (mm _ (by omega)), b5.mono (by omega), b6.mono (by omega)⟩
/-- nothing falls below zero -/
theorem op_nn {x y s : Rat} {a b : Nat} (hx : 0 ≤ x) (hy : 0 ≤ y) (h0 : 0 ≤ s) (h1 : s ≤ 1) (ha : 1 ≤ a) : 0 ≤ x + ((x + y) * ((a : Rat) / ((a + b : Nat) : Rat)) - x) * s ∧ 0 ≤ x + y - (x + ((x + y) * ((a : Rat) / ((a + b : Nat) : Rat)) - x) * s) := by
  have hq : (0 : Rat) < ((a + b : Nat) : Rat) := natCast_pos (by omega)
  have ha0 : (0 : Rat) ≤ (a : Rat) := Rat.natCast_nonneg
  have hab : (a : Rat) ≤ ((a + b : Nat) : Rat) := by push_cast; have : (0 : Rat) ≤ (b : Rat) := Rat.natCast_nonneg; grind
  generalize hp : (a : Rat) / ((a + b : Nat) : Rat) = p
  have p0 : 0 ≤ p := by rw [← hp, Rat.div_def]; exact Rat.mul_nonneg ha0 (Rat.le_of_lt (Rat.inv_pos.mpr hq))
  have p1 : p ≤ 1 := by
    apply Rat.not_lt.mp
    intro z
    rw [← hp] at z
    have := (Rat.lt_div_iff hq).mp z
    grind
  have q1 : 0 ≤ (1 - s) * x := Rat.mul_nonneg (by grind) hx
  have q2 : 0 ≤ (1 - s) * y := Rat.mul_nonneg (by grind) hy
  have q3 : 0 ≤ s * ((x + y) * p) := Rat.mul_nonneg h0 (Rat.mul_nonneg (by grind) p0)
  have q4 : 0 ≤ s * ((x + y) * (1 - p)) := Rat.mul_nonneg h0 (Rat.mul_nonneg (by grind) (by grind))
  constructor <;> grind
theorem getD_mem {α : Type} {xs : List α} {i : Nat} {d : α} (h : i < xs.length) : xs.getD i d ∈ xs := by
  rw [List.getD_eq_getElem?_getD, List.getElem?_eq_getElem h]
  exact List.getElem_mem h
theorem getD_some {α : Type} {xs : List α} {i : Nat} {d : α} (h : i < xs.length) : xs[i]? = some (xs.getD i d) := by
  rw [List.getD_eq_getElem?_getD, List.getElem?_eq_getElem h]; rfl
theorem openV_len {ar : List Nat} {vo : List Rat} {k : Nat} {s : Rat} (h1 : 1 ≤ k) (h2 : k < vo.length) : (openV ar vo k s).length = vo.length := by
  unfold openV
  simp only [List.length_append, List.length_take, List.length_drop, List.length_cons, List.length_nil]
  omega
theorem openV_mem {ar : List Nat} {vo : List Rat} {k : Nat} {s : Rat} {S : Rat → Prop} (h : ∀ q ∈ vo, S q) (f : S (vo.getD (k - 1) 0 + ((vo.getD (k - 1) 0 + vo.getD k 0) * ((ar.getD (k - 1) 0 : Nat) / ((ar.getD (k - 1) 0 + ar.getD k 0 : Nat) : Rat)) - vo.getD (k - 1) 0) * s))
    (l : S (vo.getD (k - 1) 0 + vo.getD k 0 - (vo.getD (k - 1) 0 + ((vo.getD (k - 1) 0 + vo.getD k 0) * ((ar.getD (k - 1) 0 : Nat) / ((ar.getD (k - 1) 0 + ar.getD k 0 : Nat) : Rat)) - vo.getD (k - 1) 0) * s))) : ∀ q ∈ openV ar vo k s, S q := by
  intro q hq
  unfold openV at hq
  simp only [List.mem_append, List.mem_cons, List.not_mem_nil, or_false] at hq
  rcases hq with (hq | hq | hq) | hq
  · exact h q (List.mem_of_mem_take hq)
  · rw [hq]; exact f
  · rw [hq]; exact l
  · exact h q (List.mem_of_mem_drop hq)
/-- behind an opening the row is a row still -/
theorem open_ok {x : Rw} {k : Nat} {s : Rat} {Dn M Ds : Nat} (hx : RowOk x) (hk : k ∈ weirsOf x) (h0 : 0 ≤ s) (h1 : s ≤ 1) (hs : OpSz x.vo s Dn M Ds) :
    RowOk { x with vo := openV x.ar x.vo k s } ∧ (∀ q ∈ openV x.ar x.vo k s, Bd (Dn * (x.ar.getD (k - 1) 0 + x.ar.getD k 0) * Ds) (M * 6) q) ∧ (∀ q ∈ openV x.ar x.vo k s, Sm q) := by
  obtain ⟨k1, k2, k3⟩ := mem_weirs.mp hk
  have hl := hx.len
  have m1 : x.ar.getD (k - 1) 0 ∈ x.ar := getD_mem (by omega)
  have m2 : x.ar.getD k 0 ∈ x.ar := getD_mem (by omega)
  have v1 : x.vo.getD (k - 1) 0 ∈ x.vo := getD_mem (by omega)
  have v2 : x.vo.getD k 0 ∈ x.vo := getD_mem (by omega)
  have ok := op_ok hs v1 v2 (hx.ar _ m1) (hx.ar _ m2)
  have nn := op_nn (b := x.ar.getD k 0) (hx.nn _ v1) (hx.nn _ v2) h0 h1 (hx.ar _ m1).1
  have hN : Dn ≤ Dn * 2000 * Ds := by rw [Nat.mul_assoc]; exact Nat.le_mul_of_pos_right _ (Nat.mul_pos (by decide) hs.s0)
  refine ⟨⟨hx.pos, hx.most, hx.ar, by show (openV x.ar x.vo k s).length = _; rw [openV_len k1 (by omega)]; exact hl, openV_mem hx.nn nn.1 nn.2, hx.srt, hx.lk⟩, openV_mem (fun q hq => (((hs.vo q hq).wide (E := x.ar.getD (k - 1) 0 + x.ar.getD k 0)).wide (E := Ds)).mono (by omega)) ok.bf ok.bl, openV_mem (fun q hq => (hs.vo q hq).pos_sm hs.d0 hN hs.d (Nat.lt_of_le_of_lt (Nat.mul_le_mul_right _ (by omega)) hs.m)) ok.first ok.last⟩
section
variable {P : Program} {w : World} {K : PySem.W.Frag} {mg : Str → Option Value} {base : Heap}
def ROpened (K : PySem.W.Frag) (ds : List D) (r : D) : Prop := ∃ x k s Dn M Ds, ds = [rowD K x, nD k, qd s] ∧ RowOk x ∧ k ∈ weirsOf x ∧ 0 ≤ s ∧ s ≤ 1 ∧ OpSz x.vo s Dn M Ds ∧ r = rowD K { x with vo := openV x.ar x.vo k s }
abbrev M_opened3 (P : Program) (w : World) (K : PySem.W.Frag) (mg : Str → Option Value) (base : Heap) : Prop := Me P w K mg base (cA K "Row") "opened" ["self", "weir", "share"] 7 (SpP ⟨P, w, K⟩ (ROpened K)) []
abbrev M_opened2 (P : Program) (w : World) (K : PySem.W.Frag) (mg : Str → Option Value) (base : Heap) (dv : V) : Prop := Me P w K mg base (cA K "Row") "opened" ["self", "weir", "share"] 7 (SpP ⟨P, w, K⟩ (ROpened K)) [dv]
theorem sc_Row_opened : FnScope ["self", "weir", "share", "one", "other", "both", "even", "moved", "first"] ["self", "weir", "share"] (defScope s_Row_opened) := ⟨rfl, rfl, rfl, by decide +kernel, rfl, by decide +kernel, by decide +kernel⟩
theorem ok_opened (T : Tx K mg) {f : Addr} {fd : FuncData} {dvs : List V} (F : FunD K "opened" "Row.opened" (defArgs s_Row_opened) (defBody s_Row_opened) (defScope s_Row_opened) dvs [] f fd) (Fpart : C_part P w K mg base) (Fplus : C_plus P w K mg base) (Fminus : C_minus P w K mg base) (Ftimes : C_times P w K mg base) (Fcheck : M_check_weir P w K mg base) (Fwith : M_with_volumes P w K mg base) :
    FnOk P w K mg base CX0 7 f fd ["self", "weir", "share"] (SpP ⟨P, w, K⟩ (ROpened K)) := by
  have sc := sc_Row_opened
  refine fn_pure F sc (by rintro ds r ⟨_, _, _, _, _, _, rfl, _⟩; rfl) (by decide) fun cdv A outer s H ds r hr hR => ?_
  obtain ⟨x, k, sh, Dn, M, Ds, rfl, hx, hk, h0, h1, hs, rfl⟩ := hR
  obtain ⟨k1, k2, k3⟩ := mem_weirs.mp hk
  have hl := hx.len
  have m1 : x.ar.getD (k - 1) 0 ∈ x.ar := getD_mem (by omega)
  have m2 : x.ar.getD k 0 ∈ x.ar := getD_mem (by omega)
  have v1 : x.vo.getD (k - 1) 0 ∈ x.vo := getD_mem (by omega)
  have v2 : x.vo.getD k 0 ∈ x.vo := getD_mem (by omega)
  have ok := op_ok hs v1 v2 (hx.ar _ m1) (hx.ar _ m2)
  obtain ⟨hx', hb', hs'⟩ := open_ok hx hk h0 h1 hs
  have a1 := (hx.ar _ m1)
  have a2 := (hx.ar _ m2)
  have ek : ((k : Int) - 1) = ((k - 1 : Nat) : Int) := by omega
  have g1 : atI (x.ar.map nD) ((k : Int) - 1) = some (nD (x.ar.getD (k - 1) 0)) := by rw [ek]; exact atI_map (atI_n (getD_some (by omega)))
  have g2 : atI (x.ar.map nD) (k : Int) = some (nD (x.ar.getD k 0)) := atI_map (atI_n (getD_some (by omega)))
  have g3 : atI (x.vo.map qd) ((k : Int) - 1) = some (qd (x.vo.getD (k - 1) 0)) := by rw [ek]; exact atI_map (atI_n (getD_some (by omega)))
  have g4 : atI (x.vo.map qd) (k : Int) = some (qd (x.vo.getD k 0)) := atI_map (atI_n (getD_some (by omega)))
  have ev : openV x.ar x.vo k sh = x.vo.take (k - 1) ++ [x.vo.getD (k - 1) 0 + ((x.vo.getD (k - 1) 0 + x.vo.getD k 0) * ((x.ar.getD (k - 1) 0 : Nat) / ((x.ar.getD (k - 1) 0 + x.ar.getD k 0 : Nat) : Rat)) - x.vo.getD (k - 1) 0) * sh, x.vo.getD (k - 1) 0 + x.vo.getD k 0 - (x.vo.getD (k - 1) 0 + ((x.vo.getD (k - 1) 0 + x.vo.getD k 0) * ((x.ar.getD (k - 1) 0 : Nat) / ((x.ar.getD (k - 1) 0 + x.ar.getD k 0 : Nat) : Rat)) - x.vo.getD (k - 1) 0) * sh)] ++ x.vo.drop (k + 1) := rfl
  generalize x.ar.getD (k - 1) 0 = a at *
  generalize x.ar.getD k 0 = b at *
  generalize x.vo.getD (k - 1) 0 = u at *
  generalize x.vo.getD k 0 = v at *
  refine sds_cons (sd_expr (pd_meth (r := .non) Fcheck (hr.mono (by decide)) dfl_nil (pd_var 0 rfl) (pad_cons (pd_var 1 rfl) pad_nil) rfl ⟨x, k, rfl, hk, rfl⟩) ?_)
  refine sds_cons (sd_par 3 4 (pad_cons (pd_at (d := nD a) (pd_fld (pd_var 0 rfl) T.clRow T.noRow_areas rfl) (pd_sub (pd_var 1 rfl) pd_int) (atD_tup g1)) (pad_cons (pd_at (d := nD b) (pd_fld (pd_var 0 rfl) T.clRow T.noRow_areas rfl) (pd_var 1 rfl) (atD_tup g2)) pad_nil)) ?_ sc.nd)
  refine sds_cons (sd_asg 5 (pd_call (r := qd (u + v)) Fplus (hr.mono (by decide)) dfl_nil (pad_cons (pd_at (d := qd u) (pd_fld (pd_var 0 rfl) T.clRow T.noRow_volumes rfl) (pd_sub (pd_var 1 rfl) pd_int) (atD_tup g3)) (pad_cons (pd_at (d := qd v) (pd_fld (pd_var 0 rfl) T.clRow T.noRow_volumes rfl) (pd_var 1 rfl) (atD_tup g4)) pad_nil)) ⟨_, _, rfl, ok.sx, ok.sy, rfl⟩) ?_ sc.nd)
  refine sds_cons (sd_asg 6 (pd_call (r := qd ((u + v) * ((a : Rat) / ((a + b : Nat) : Rat)))) Ftimes (hr.mono (by decide)) dfl_nil (pad_cons (pd_var 5 rfl) (pad_cons (pd_call (r := qd ((a : Rat) / ((a + b : Nat) : Rat))) Fpart (hr.mono (by decide)) dfl_nil (pad_cons (pd_var 3 rfl) (pad_cons (pd_add (pd_var 3 rfl) (pd_var 4 rfl)) pad_nil)) ⟨_, _, rfl, by omega, ?_, by rw [frac_eq]⟩) pad_nil)) ⟨_, _, rfl, ok.both, ok.sp, rfl⟩) ?_ sc.nd)
  · exact Nat.lt_of_le_of_lt (show ((a : Int) + (b : Int)).natAbs ≤ 2000 by omega) (Nat.lt_of_lt_of_le (show 2000 < 2 ^ 11 by decide) (Nat.pow_le_pow_right (by decide) (by omega)))
  refine sds_cons (sd_asg 7 (pd_call (r := qd (((u + v) * ((a : Rat) / ((a + b : Nat) : Rat)) - u) * sh)) Ftimes (hr.mono (by decide)) dfl_nil (pad_cons (pd_call (r := qd ((u + v) * ((a : Rat) / ((a + b : Nat) : Rat)) - u)) Fminus (hr.mono (by decide)) dfl_nil (pad_cons (pd_var 6 rfl) (pad_cons (pd_at (d := qd u) (pd_fld (pd_var 0 rfl) T.clRow T.noRow_volumes rfl) (pd_sub (pd_var 1 rfl) pd_int) (atD_tup g3)) pad_nil)) ⟨_, _, rfl, ok.even, ok.sx, rfl⟩) (pad_cons (pd_var 2 rfl) pad_nil)) ⟨_, _, rfl, ok.diff, ok.ss, rfl⟩) ?_ sc.nd)
  refine sds_cons (sd_asg 8 (pd_call (r := qd (u + ((u + v) * ((a : Rat) / ((a + b : Nat) : Rat)) - u) * sh)) Fplus (hr.mono (by decide)) dfl_nil (pad_cons (pd_at (d := qd u) (pd_fld (pd_var 0 rfl) T.clRow T.noRow_volumes rfl) (pd_sub (pd_var 1 rfl) pd_int) (atD_tup g3)) (pad_cons (pd_var 7 rfl) pad_nil)) ⟨_, _, rfl, ok.sx, ok.moved, rfl⟩) ?_ sc.nd)
  refine sds_one (sd_ret (pd_meth (r := rowD K { x with vo := openV x.ar x.vo k sh }) Fwith (hr.mono (by decide)) dfl_nil (pd_var 0 rfl) (pad_cons (PL.lst (pl_lst (pad_starT (pd_cutT (pd_fld (pd_var 0 rfl) T.clRow T.noRow_volumes rfl) pod_none (pod_some (pd_sub (pd_var 1 rfl) pd_int))) (pad_cons (pd_var 8 rfl) (pad_cons (pd_call (r := qd (u + v - (u + ((u + v) * ((a : Rat) / ((a + b : Nat) : Rat)) - u) * sh))) Fminus (hr.mono (by decide)) dfl_nil (pad_cons (pd_var 5 rfl) (pad_cons (pd_var 8 rfl) pad_nil)) ⟨_, _, rfl, ok.both, ok.first, rfl⟩) (pad_starT (pd_cutT (pd_fld (pd_var 0 rfl) T.clRow T.noRow_volumes rfl) (pod_some (pd_add (pd_var 1 rfl) pd_int)) pod_none) pad_nil)))) ?_)) pad_nil) rfl ?_) rfl)
  · rw [ek, cut_to, show ((k : Int) + 1) = ((k + 1 : Nat) : Int) by omega, cut_from]
    refine Nat.le_trans (m := 100000) ?_ (by decide)
    simp only [List.length_append, List.length_cons, List.length_take, List.length_drop, List.length_map, List.length_nil]
    have := hx.most
    omega
  · refine ⟨x, _, _, openV x.ar x.vo k sh, rfl, hx, rfl, ?_, hx'.len, hx'.nn, rfl⟩
    rw [ek, cut_to, show ((k : Int) + 1) = ((k + 1 : Nat) : Int) by omega, cut_from]
    have := partDs_qd hs'
    rw [ev] at this ⊢
    simpa using this
theorem me_opened3 (T : Tx K mg) {dv : V} (F : Mdf K (cA K "Row") "opened" "Row.opened" s_Row_opened [dv]) (Fpart : C_part P w K mg base) (Fplus : C_plus P w K mg base) (Fminus : C_minus P w K mg base) (Ftimes : C_times P w K mg base) (Fcheck : M_check_weir P w K mg base) (Fwith : M_with_volumes P w K mg base) : M_opened3 P w K mg base :=
  F.med T.clRow 3 1 (by simp) rfl (fun _ _ _ _ _ _ _ us its h1 h2 => match us, its, h1, h2 with | [_, _, _], [_], _, _ => ⟨_, rfl, rfl⟩) fun f fd F => ok_opened T F Fpart Fplus Fminus Ftimes Fcheck Fwith
theorem me_opened2 (T : Tx K mg) {dv : V} (F : Mdf K (cA K "Row") "opened" "Row.opened" s_Row_opened [dv]) (Fpart : C_part P w K mg base) (Fplus : C_plus P w K mg base) (Fminus : C_minus P w K mg base) (Ftimes : C_times P w K mg base) (Fcheck : M_check_weir P w K mg base) (Fwith : M_with_volumes P w K mg base) : M_opened2 P w K mg base dv :=
  F.med T.clRow 2 0 (by simp) rfl (fun _ _ _ _ _ _ _ us its h1 h2 => match us, its, h1, h2 with | [_, _], [_], _, _ => ⟨_, rfl, rfl⟩) fun f fd F => ok_opened T F Fpart Fplus Fminus Ftimes Fcheck Fwith
end
end WL
set_option Elab.async false
set_option linter.all false
set_option maxRecDepth 100000
set_option maxHeartbeats 4000000
namespace WL
open PySem PySem.Spec PyProof.Rows L2
/-- the water ahead of place k, the breadth ahead of place k -/
def Wv (x : Rw) (k : Nat) : Rat := sumQ (x.vo.take k)
def Xv (x : Rw) (k : Nat) : Nat := (x.ar.take k).sum
/-- the line through the points i and j, at p -/
def lineV (x : Rw) (i j p : Nat) : Rat := Wv x i + (Wv x j - Wv x i) / (((Xv x j : Int) - (Xv x i : Int) : Int) : Rat) * (((Xv x p : Int) - (Xv x i : Int) : Int) : Rat)
def flatB (x : Rw) (up : Bool) (a b p : Nat) : Bool := if up = true then !decide (lineV x a p b < Wv x b) else !decide (Wv x b < lineV x a p b)
/-- the stack (its top first) without the points that lie flat -/
def popF (fl : Nat → Nat → Nat → Bool) (p : Nat) : List Nat → List Nat
  | b :: a :: r => if fl a b p = true then popF fl p (a :: r) else b :: a :: r
  | r => r
def cornSt (fl : Nat → Nat → Nat → Bool) (first : Nat) : Nat → List Nat
  | 0 => []
  | n + 1 => (first + n) :: popF fl (first + n) (cornSt fl first n)
def pairsN (L : List Nat) : List (Nat × Nat) := L.zip L.tail
def findP (L : List Nat) (p : Nat) : Nat × Nat := ((pairsN L).filter fun q => decide (q.1 ≤ p) && decide (p ≤ q.2)).headD (0, 0)
def marksOf (x : Rw) : List Nat := 0 :: (x.lk ++ [x.ar.length])
def stretchAt (x : Rw) (p : Nat) : Nat × Nat := findP (marksOf x) p
def cornersOf (x : Rw) (up : Bool) (first last : Nat) : List Nat := (cornSt (flatB x up) first (last + 1 - first)).reverse
def edgeAt (x : Rw) (p : Nat) (up : Bool) : Nat × Nat := findP (cornersOf x up (stretchAt x p).1 (stretchAt x p).2) p
def edgeV (x : Rw) (p : Nat) (up : Bool) : Rat := lineV x (edgeAt x p up).1 (edgeAt x p up).2 p
/-- a strictly rising list from a to b -/
structure Chain (L : List Nat) (a b : Nat) : Prop where
  srt : L.Pairwise (· < ·)
  head : L.head? = some a
  last : L.getLast? = some b
theorem chain_pair : ∀ {L : List Nat} {a b p : Nat}, Chain L a b → a < b → a ≤ p → p ≤ b → ∃ q ∈ pairsN L, q.1 ≤ p ∧ p ≤ q.2
  | [], a, b, p, h, _, _, _ => by have := h.head; simp at this
  | [c], a, b, p, h, hab, _, _ => by
    have h1 := h.head
    have h2 := h.last
    simp at h1 h2
    omega
  | c :: d :: L, a, b, p, h, hab, h1, h2 => by
    have hc : c = a := by have := h.head; simpa using this
    by_cases hp : p ≤ d
    · exact ⟨(c, d), by simp [pairsN], by show c ≤ p; omega, hp⟩
    · have hs := List.pairwise_cons.mp h.srt
      have hl : (d :: L).getLast? = some b := by have := h.last; rwa [List.getLast?_cons_cons] at this
      have hdb : d < b := by omega
      obtain ⟨q, hq, q1, q2⟩ := chain_pair (L := d :: L) (a := d) (b := b) (p := p) ⟨hs.2, rfl, hl⟩ hdb (by omega) h2
      refine ⟨q, ?_, q1, q2⟩
      unfold pairsN at hq ⊢
      simp only [List.tail_cons, List.zip_cons_cons] at hq ⊢
      exact List.mem_cons_of_mem _ (by simpa using hq)
theorem pairs_lt : ∀ {L : List Nat}, L.Pairwise (· < ·) → ∀ q ∈ pairsN L, q.1 < q.2 ∧ q.1 ∈ L ∧ q.2 ∈ L
  | [], _, q, h => by simp [pairsN] at h
  | [c], _, q, h => by simp [pairsN] at h
  | c :: d :: L, hs, q, h => by
    have hs' := List.pairwise_cons.mp hs
    unfold pairsN at h
    simp only [List.tail_cons, List.zip_cons_cons] at h
    rcases List.mem_cons.mp h with rfl | h
    · exact ⟨hs'.1 d (by simp), by simp, by simp⟩
    · obtain ⟨h1, h2, h3⟩ := pairs_lt hs'.2 q (by unfold pairsN; simpa using h)
      exact ⟨h1, List.mem_cons_of_mem _ h2, List.mem_cons_of_mem _ h3⟩
theorem findP_spec {L : List Nat} {a b p : Nat} (h : Chain L a b) (hab : a < b) (h1 : a ≤ p) (h2 : p ≤ b) :
    ((pairsN L).filter fun q => decide (q.1 ≤ p) && decide (p ≤ q.2))[0]? = some (findP L p) ∧ findP L p ∈ pairsN L ∧ (findP L p).1 ≤ p ∧ p ≤ (findP L p).2 ∧ (findP L p).1 < (findP L p).2 ∧ (findP L p).1 ∈ L ∧ (findP L p).2 ∈ L := by
  obtain ⟨q, hq, q1, q2⟩ := chain_pair h hab h1 h2
  have hm : q ∈ (pairsN L).filter fun q => decide (q.1 ≤ p) && decide (p ≤ q.2) := List.mem_filter.mpr ⟨hq, by simp [q1, q2]⟩
  unfold findP
  cases hf : (pairsN L).filter fun q => decide (q.1 ≤ p) && decide (p ≤ q.2) with
  | nil => rw [hf] at hm; cases hm
  | cons y ys =>
    have hy : y ∈ (pairsN L).filter fun q => decide (q.1 ≤ p) && decide (p ≤ q.2) := by rw [hf]; simp
    obtain ⟨z1, z2⟩ := List.mem_filter.mp hy
    have z3 : y.1 ≤ p ∧ p ≤ y.2 := by simpa using z2
    obtain ⟨p1, p2, p3⟩ := pairs_lt h.srt y z1
    exact ⟨rfl, z1, z3.1, z3.2, p1, p2, p3⟩
/-- what stands on the stack -/
theorem popF_spec (fl : Nat → Nat → Nat → Bool) (p : Nat) : ∀ st : List Nat, st ≠ [] → st.Pairwise (· > ·) → popF fl p st ≠ [] ∧ (popF fl p st).Pairwise (· > ·) ∧ (popF fl p st).getLast? = st.getLast? ∧ ∀ x ∈ popF fl p st, x ∈ st
  | [], h, _ => absurd rfl h
  | [a], _, h => ⟨by simp [popF], h, rfl, fun x hx => hx⟩
  | b :: a :: r, _, h => by
    have h' := List.pairwise_cons.mp h
    rw [popF]
    split
    · obtain ⟨h1, h2, h3, h4⟩ := popF_spec fl p (a :: r) (by simp) h'.2
      exact ⟨h1, h2, by rw [h3, List.getLast?_cons_cons], fun x hx => List.mem_cons_of_mem _ (h4 x hx)⟩
    · exact ⟨by simp, h, rfl, fun x hx => hx⟩
theorem cornSt_spec (fl : Nat → Nat → Nat → Bool) (first : Nat) : ∀ n, (cornSt fl first n).Pairwise (· > ·) ∧ (∀ x ∈ cornSt fl first n, first ≤ x ∧ x < first + n) ∧ (0 < n → (cornSt fl first n).head? = some (first + n - 1) ∧ (cornSt fl first n).getLast? = some first)
  | 0 => by
    rw [cornSt]
    exact ⟨.nil, ⟨fun x hx => by simp at hx, fun h => by omega⟩⟩
  | n + 1 => by
    obtain ⟨h1, h2, h3⟩ := cornSt_spec fl first n
    rw [cornSt]
    cases n with
    | zero =>
      rw [cornSt, popF]
      · exact ⟨List.pairwise_singleton _ _, fun x hx => by simp at hx; omega, fun _ => ⟨by simp, by simp⟩⟩
      · simp
    | succ n =>
      obtain ⟨q1, q2⟩ := h3 (by omega)
      have hne : cornSt fl first (n + 1) ≠ [] := by intro z; rw [z] at q1; cases q1
      obtain ⟨p1, p2, p3, p4⟩ := popF_spec fl (first + (n + 1)) _ hne h1
      refine ⟨List.pairwise_cons.mpr ⟨fun x hx => ?_, p2⟩, fun x hx => ?_, fun _ => ⟨by simp, ?_⟩⟩
      · have := (h2 x (p4 x hx)).2; omega
      · rcases List.mem_cons.mp hx with rfl | hx
        · omega
        · have := h2 x (p4 x hx); omega
      · cases hp : popF fl (first + (n + 1)) (cornSt fl first (n + 1)) with
        | nil => exact absurd hp p1
        | cons y ys => rw [List.getLast?_cons_cons, ← hp, p3, q2]
theorem corners_chain (x : Rw) (up : Bool) {first last : Nat} (h : first ≤ last) : Chain (cornersOf x up first last) first last := by
  obtain ⟨h1, _, h3⟩ := cornSt_spec (flatB x up) first (last + 1 - first)
  obtain ⟨q1, q2⟩ := h3 (by omega)
  unfold cornersOf
  refine ⟨by rw [List.pairwise_reverse]; exact h1, by rw [List.head?_reverse]; exact q2, ?_⟩
  rw [List.getLast?_reverse, q1]
  congr 1
  omega
theorem marks_chain {x : Rw} (h : RowOk x) : Chain (marksOf x) 0 x.ar.length := by
  unfold marksOf
  refine ⟨?_, rfl, ?_⟩
  · refine List.pairwise_cons.mpr ⟨fun y hy => ?_, ?_⟩
    · rcases List.mem_append.mp hy with hy | hy
      · exact (h.lk y hy).1
      · rw [List.mem_singleton.mp hy]; exact h.pos
    · refine List.pairwise_append.mpr ⟨h.srt, List.pairwise_singleton _ _, fun a ha b hb => ?_⟩
      rw [List.mem_singleton.mp hb]
      exact (h.lk a ha).2
  · have : (0 :: (x.lk ++ [x.ar.length])) = (0 :: x.lk) ++ [x.ar.length] := rfl
    rw [this, List.getLast?_concat]
theorem stretch_spec {x : Rw} {p : Nat} (h : RowOk x) (hp : p ≤ x.ar.length) : (stretchAt x p).1 ≤ p ∧ p ≤ (stretchAt x p).2 ∧ (stretchAt x p).1 < (stretchAt x p).2 ∧ (stretchAt x p).2 ≤ x.ar.length := by
  obtain ⟨_, _, h1, h2, h3, _, h5⟩ := findP_spec (marks_chain h) h.pos (Nat.zero_le p) hp
  refine ⟨h1, h2, h3, ?_⟩
  unfold marksOf at h5
  rcases List.mem_cons.mp h5 with z | z
  · have : (stretchAt x p).2 = 0 := z
    omega
  · rcases List.mem_append.mp z with z | z
    · exact Nat.le_of_lt (h.lk _ z).2
    · exact Nat.le_of_eq (List.mem_singleton.mp z)
theorem edge_spec {x : Rw} {p : Nat} (up : Bool) (h : RowOk x) (hp : p ≤ x.ar.length) : (edgeAt x p up).1 ≤ p ∧ p ≤ (edgeAt x p up).2 ∧ (edgeAt x p up).1 < (edgeAt x p up).2 ∧ (edgeAt x p up).2 ≤ x.ar.length ∧ edgeAt x p up ∈ pairsN (cornersOf x up (stretchAt x p).1 (stretchAt x p).2) := by
  obtain ⟨s1, s2, s3, s4⟩ := stretch_spec h hp
  obtain ⟨_, h0, h1, h2, h3, _, h5⟩ := findP_spec (corners_chain x up (Nat.le_of_lt s3)) s3 s1 s2
  refine ⟨h1, h2, h3, ?_, h0⟩
  have : (edgeAt x p up).2 ∈ cornersOf x up (stretchAt x p).1 (stretchAt x p).2 := h5
  unfold cornersOf at this
  rw [List.mem_reverse] at this
  obtain ⟨_, q, _⟩ := cornSt_spec (flatB x up) (stretchAt x p).1 ((stretchAt x p).2 + 1 - (stretchAt x p).1)
  have := q _ this
  omega
/-- rows of numbers of a moderate size -/
def RowSz (x : Rw) : Prop := ∃ Dn M : Nat, 0 < Dn ∧ Dn < 2 ^ 300 ∧ M < 2 ^ 300 ∧ ∀ q ∈ x.vo, Bd Dn M q
theorem sum_take_le {ns : List Nat} {B : Nat} (h : ∀ a ∈ ns, a ≤ B) : ∀ k, (ns.take k).sum ≤ k * B := fun k => by
  induction k with
  | zero => simp
  | succ k ih =>
    cases e : ns[k]? with
    | none =>
      rw [List.take_add_one, e]
      simp only [Option.toList_none, List.append_nil]
      exact Nat.le_trans ih (Nat.mul_le_mul_right B (by omega))
    | some a =>
      rw [sum_take_succ e, Nat.succ_mul]
      exact Nat.add_le_add ih (h a (List.mem_of_getElem? e))
theorem Xv_le {x : Rw} (h : RowOk x) (k : Nat) : Xv x k ≤ 24000 := by
  have hk : Xv x k = (x.ar.take (min k x.ar.length)).sum := by
    unfold Xv
    congr 1
    rw [List.take_eq_take_iff]
    omega
  rw [hk]
  have := sum_take_le (fun a ha => (h.ar a ha).2) (min k x.ar.length)
  have h2 : min k x.ar.length ≤ 24 := Nat.le_trans (Nat.min_le_right _ _) h.most
  exact Nat.le_trans this (Nat.mul_le_mul_right 1000 h2)
theorem Xv_lt {x : Rw} (h : RowOk x) {i j : Nat} (hij : i < j) (hj : j ≤ x.ar.length) : Xv x i < Xv x j := by
  unfold Xv
  obtain ⟨d, rfl⟩ : ∃ d, j = i + 1 + d := ⟨j - (i + 1), by omega⟩
  have e := List.getElem?_eq_getElem (show i < x.ar.length by omega)
  have h1 := sum_take_succ e
  have h2 := (h.ar _ (List.getElem_mem (show i < x.ar.length by omega))).1
  have h3 : (x.ar.take (i + 1)).sum ≤ (x.ar.take (i + 1 + d)).sum := by
    have e2 : x.ar.take (i + 1 + d) = x.ar.take (i + 1) ++ (x.ar.drop (i + 1)).take d := List.take_add
    rw [e2, List.sum_append]
    exact Nat.le_add_right _ _
  omega
theorem RowSz.w {x : Rw} (h : RowSz x) (hx : RowOk x) (k : Nat) : Sz 700 300 (Wv x k) := by
  obtain ⟨Dn, M, h0, h1, h2, hs⟩ := h
  have hm : (M * 24) * Dn < 2 ^ 610 := by
    have a1 : M * 24 < 2 ^ (300 + 5) := mul_lt_pow h2 (by decide)
    have := mul_lt_pow a1 h1
    exact Nat.lt_of_lt_of_le this (Nat.pow_le_pow_right (by decide) (by decide))
  have b := bd_sums (N := 24) h0 (Nat.lt_of_lt_of_le h1 (Nat.pow_le_pow_right (by decide) (by decide))) hs (by rw [hx.len]; exact hx.most) (Nat.lt_of_lt_of_le hm (Nat.pow_le_pow_right (by decide) (by decide))) k
  refine ⟨?_, Nat.lt_of_le_of_lt (b.den h0) h1⟩
  refine Nat.lt_of_le_of_lt b.num (Nat.lt_of_le_of_lt (Nat.mul_le_mul_left _ (b.den h0)) (Nat.lt_of_lt_of_le hm (Nat.pow_le_pow_right (by decide) (by decide))))
theorem RowSz.q {x : Rw} (h : RowSz x) : ∀ q ∈ x.vo, Sm q := by
  obtain ⟨Dn, M, h0, h1, h2, hs⟩ := h
  intro q hq
  refine (hs q hq).sm h0 (Nat.lt_of_lt_of_le h1 (Nat.pow_le_pow_right (by decide) (by decide))) ?_
  exact Nat.lt_of_lt_of_le (mul_lt_pow h2 h1) (Nat.pow_le_pow_right (by decide) (by decide))
theorem RowSz.sums {x : Rw} (h : RowSz x) (hx : RowOk x) : SmSums x.vo := fun k => (h.w hx k).mono (by decide) (by decide)
/-- the numbers of a line -/
structure LineOk (x : Rw) (i j p : Nat) : Prop where
  wi : Sm (Wv x i)
  wj : Sm (Wv x j)
  wp : Sm (Wv x p)
  dw : Sm (Wv x j - Wv x i)
  dx : Sm (((Xv x j : Int) - (Xv x i : Int) : Int) : Rat)
  dx0 : (0 : Rat) < (((Xv x j : Int) - (Xv x i : Int) : Int) : Rat)
  dxs : ((((Xv x j : Int) - (Xv x i : Int) : Int) : Rat)).num.natAbs < 2 ^ 4500
  rise : Sm ((Wv x j - Wv x i) / (((Xv x j : Int) - (Xv x i : Int) : Int) : Rat))
  dp : Sm (((Xv x p : Int) - (Xv x i : Int) : Int) : Rat)
  up : Sm ((Wv x j - Wv x i) / (((Xv x j : Int) - (Xv x i : Int) : Int) : Rat) * (((Xv x p : Int) - (Xv x i : Int) : Int) : Rat))
  line : Sz 4000 1000 (lineV x i j p)
theorem line_ok {x : Rw} (h : RowSz x) (hx : RowOk x) {i j p : Nat} (hij : i < j) (hj : j ≤ x.ar.length) : LineOk x i j p := by
  have a1 := h.w hx i
  have a2 := h.w hx j
  have hlt := Xv_lt hx hij hj
  have l1 := Xv_le hx j
  have l2 := Xv_le hx p
  have l3 := Xv_le hx i
  have b1 : ((Xv x j : Int) - (Xv x i : Int)).natAbs < 2 ^ 15 := by omega
  have b2 : ((Xv x p : Int) - (Xv x i : Int)).natAbs < 2 ^ 15 := by omega
  have c1 := sz_int b1
  have c2 := sz_int b2
  have p0 : (0 : Rat) < (((Xv x j : Int) - (Xv x i : Int) : Int) : Rat) := by exact_mod_cast (show (0 : Int) < (Xv x j : Int) - (Xv x i : Int) by omega)
  have d1 := sz_sub a2 a1
  have d2 := sz_div d1 c1 (Rat.ne_of_gt p0)
  have d3 := sz_mul d2 c2
  have d4 := sz_add a1 d3
  exact ⟨a1.mono (by decide) (by decide), a2.mono (by decide) (by decide), (h.w hx p).mono (by decide) (by decide), d1.mono (by decide) (by decide), c1.mono (by decide) (by decide), p0, Nat.lt_of_lt_of_le c1.1 (Nat.pow_le_pow_right (by decide) (by decide)), d2.mono (by decide) (by decide), c2.mono (by decide) (by decide), d3.mono (by decide) (by decide), d4.mono (by decide) (by decide)⟩
end WL
set_option Elab.async false
set_option linter.all false
set_option maxRecDepth 100000
set_option maxHeartbeats 4000000
namespace WL
open PySem PySem.Spec PyProof.Rows L2
/-- numbers of one common denominator at most D, at most M -/
def SzR (D M : Nat) (vo : List Rat) : Prop := ∃ D' M', 0 < D' ∧ D' ≤ D ∧ M' ≤ M ∧ ∀ q ∈ vo, Bd D' M' q
theorem SzR.row {D M : Nat} {x : Rw} (h : SzR D M x.vo) (hD : D < 2 ^ 300) (hM : M < 2 ^ 300) : RowSz x := by
  obtain ⟨D', M', h0, h1, h2, h3⟩ := h
  exact ⟨D', M', h0, Nat.lt_of_le_of_lt h1 hD, Nat.lt_of_le_of_lt h2 hM, h3⟩
theorem SzR.mono {D M D2 M2 : Nat} {vo : List Rat} (h : SzR D M vo) (hD : D ≤ D2) (hM : M ≤ M2) : SzR D2 M2 vo := by
  obtain ⟨D', M', h0, h1, h2, h3⟩ := h
  exact ⟨D', M', h0, Nat.le_trans h1 hD, Nat.le_trans h2 hM, h3⟩
/-- one opening's room -/
theorem SzR.op {D M Ds : Nat} {vo : List Rat} {s : Rat} (h : SzR D M vo) (hs : Bd Ds 1 s) (s0 : 0 < Ds) (hd : D * 2000 * Ds < 2 ^ 4400) (hm : M * 6 * (D * 2000 * Ds) < 2 ^ 400000) : ∃ D' M', D' ≤ D ∧ M' ≤ M ∧ OpSz vo s D' M' Ds := by
  obtain ⟨D', M', h0, h1, h2, h3⟩ := h
  have e : D' * 2000 * Ds ≤ D * 2000 * Ds := Nat.mul_le_mul_right Ds (Nat.mul_le_mul_right 2000 h1)
  exact ⟨D', M', h1, h2, h3, hs, h0, s0, Nat.lt_of_le_of_lt e hd, Nat.lt_of_le_of_lt (Nat.mul_le_mul (Nat.mul_le_mul_right 6 h2) e) hm⟩
theorem open_step {x : Rw} {k : Nat} {s : Rat} {D M Ds : Nat} (hx : RowOk x) (hk : k ∈ weirsOf x) (h0 : 0 ≤ s) (h1 : s ≤ 1) (h : SzR D M x.vo) (hs : Bd Ds 1 s) (s0 : 0 < Ds) (hd : D * 2000 * Ds < 2 ^ 4400) (hm : M * 6 * (D * 2000 * Ds) < 2 ^ 400000) :
    RowOk { x with vo := openV x.ar x.vo k s } ∧ SzR (D * 2000 * Ds) (M * 6) (openV x.ar x.vo k s) ∧ ∃ D' M', OpSz x.vo s D' M' Ds := by
  obtain ⟨D', M', e1, e2, hop⟩ := h.op hs s0 hd hm
  obtain ⟨a1, a2, _⟩ := open_ok hx hk h0 h1 hop
  obtain ⟨k1, k2, k3⟩ := mem_weirs.mp hk
  have m1 := hx.ar _ (getD_mem (xs := x.ar) (i := k - 1) (d := 0) (by omega))
  have m2 := hx.ar _ (getD_mem (xs := x.ar) (i := k) (d := 0) (by omega))
  refine ⟨a1, ⟨_, M' * 6, ?_, ?_, Nat.mul_le_mul_right 6 e2, a2⟩, D', M', hop⟩
  · exact Nat.mul_pos (Nat.mul_pos hop.d0 (by omega)) s0
  · exact Nat.mul_le_mul_right Ds (Nat.mul_le_mul e1 (by omega))
theorem bd_one : Bd 1 1 (1 : Rat) := bd_int (i := 1) (by decide)
def behindV (ar : List Nat) (vo : List Rat) (o : List Nat) : List Rat := o.foldl (fun v k => openV ar v k 1) vo
theorem weirs_vo (x : Rw) (v : List Rat) : weirsOf { x with vo := v } = weirsOf x := rfl
theorem pow_lt4400 {a b k : Nat} (ha : a < 2 ^ 100) (hk : k ≤ 30) (hb : b ≤ 2 ^ 14) : a * b ^ k < 2 ^ 600 := by
  have h1 : b ^ k ≤ (2 ^ 14) ^ 30 := Nat.le_trans (Nat.pow_le_pow_left hb k) (Nat.pow_le_pow_right (by decide) hk)
  have h2 : (2 ^ 14) ^ 30 = 2 ^ 420 := by rw [← Nat.pow_mul]
  rw [h2] at h1
  have h3 : b ^ k < 2 ^ 421 := Nat.lt_of_le_of_lt h1 (Nat.pow_lt_pow_right (by decide) (by decide))
  exact Nat.lt_of_lt_of_le (mul_lt_pow ha h3) (Nat.pow_le_pow_right (by decide) (by decide))
/-- behind the first k openings of an order with shares -/
structure OrdOk (x : Rw) (o : List Nat) (D M : Nat) : Prop where
  ok : RowOk x
  w : ∀ k ∈ o, k ∈ weirsOf x
  len : o.length ≤ 15
  sz : SzR D M x.vo
  hD : D < 2 ^ 100
  hM : M < 2 ^ 100
theorem behind_step {x : Rw} {o : List Nat} {D M : Nat} (h : OrdOk x o D M) : ∀ k, k ≤ o.length → RowOk { x with vo := behindV x.ar x.vo (o.take k) } ∧ SzR (D * 2000 ^ k) (M * 6 ^ k) (behindV x.ar x.vo (o.take k)) := fun k => by
  induction k with
  | zero => intro _; rw [List.take_zero]; simp only [Nat.pow_zero, Nat.mul_one]; exact ⟨h.ok, h.sz⟩
  | succ k ih =>
    intro hk
    obtain ⟨h1, h2⟩ := ih (by omega)
    have e := List.getElem?_eq_getElem (show k < o.length by omega)
    have hv : behindV x.ar x.vo (o.take (k + 1)) = openV x.ar (behindV x.ar x.vo (o.take k)) o[k] 1 := foldl_take_succ _ _ e
    have := h.len
    have b1 := pow_lt4400 (a := D) (b := 2000) (k := k + 1) h.hD (by omega) (by decide)
    have b2 := pow_lt4400 (a := M) (b := 6) (k := k + 1) h.hM (by omega) (by decide)
    have e1 : D * 2000 ^ k * 2000 * 1 = D * 2000 ^ (k + 1) := by rw [Nat.mul_one, Nat.pow_succ, Nat.mul_assoc]
    have e2 : M * 6 ^ k * 6 = M * 6 ^ (k + 1) := by rw [Nat.pow_succ, Nat.mul_assoc]
    obtain ⟨q1, q2, _⟩ := open_step (s := 1) (Ds := 1) h1 (show o[k] ∈ weirsOf { x with vo := _ } from h.w _ (List.getElem_mem _)) (by decide) (by decide) h2 bd_one (by decide) (by rw [e1]; exact Nat.lt_of_lt_of_le b1 (Nat.pow_le_pow_right (by decide) (by decide))) (by
      rw [e1, e2]
      exact Nat.lt_of_lt_of_le (mul_lt_pow b2 b1) (Nat.pow_le_pow_right (by decide) (by decide)))
    rw [hv]
    rw [e1, e2] at q2
    exact ⟨q1, q2⟩
theorem behind_op {x : Rw} {o : List Nat} {D M : Nat} (h : OrdOk x o D M) {k : Nat} (hk : k < o.length) : ∃ D' M', OpSz (behindV x.ar x.vo (o.take k)) 1 D' M' 1 := by
  obtain ⟨h1, h2⟩ := behind_step h k (by omega)
  have := h.len
  have b1 := pow_lt4400 (a := D) (b := 2000) (k := k + 1) h.hD (by omega) (by decide)
  have b2 := pow_lt4400 (a := M) (b := 6) (k := k + 1) h.hM (by omega) (by decide)
  have e1 : D * 2000 ^ k * 2000 * 1 = D * 2000 ^ (k + 1) := by rw [Nat.mul_one, Nat.pow_succ, Nat.mul_assoc]
  have e2 : M * 6 ^ k * 6 = M * 6 ^ (k + 1) := by rw [Nat.pow_succ, Nat.mul_assoc]
  obtain ⟨D', M', _, _, q⟩ := h2.op bd_one (by decide) (by rw [e1]; exact Nat.lt_of_lt_of_le b1 (Nat.pow_le_pow_right (by decide) (by decide))) (by
      rw [e1, e2]
      exact Nat.lt_of_lt_of_le (mul_lt_pow b2 b1) (Nat.pow_le_pow_right (by decide) (by decide)))
  exact ⟨D', M', q⟩
section
variable {P : Program} {w : World} {K : PySem.W.Frag} {mg : Str → Option Value} {base : Heap}
/-! ### check_row, check_order, behind -/
def RCheckRow (K : PySem.W.Frag) (ds : List D) (r : D) : Prop := ∃ x, ds = [rowD K x] ∧ r = .non
abbrev C_check_row (P : Program) (w : World) (K : PySem.W.Frag) (mg : Str → Option Value) (base : Heap) : Prop := Fn P w K mg base "check_row" ["thing"] 1 (SpP ⟨P, w, K⟩ (RCheckRow K)) []
theorem sc_check_row : FnScope ["thing"] ["thing"] (defScope s_check_row) := ⟨rfl, rfl, rfl, by decide +kernel, rfl, by decide +kernel, by decide +kernel⟩
theorem fn_check_row (T : Tx K mg) (F : Dfn K mg "check_row" s_check_row []) : C_check_row P w K mg base := by
  have sc := sc_check_row
  refine F.fn (fun _ _ _ _ _ _ us hl => match us, hl with | [_], _ => rfl) fun f fd F => ?_
  refine fn_pure F sc (by rintro ds r ⟨_, rfl, _⟩; rfl) (by decide) fun cdv A outer s H ds r hr hR => ?_
  obtain ⟨x, rfl, rfl⟩ := hR
  exact sds_one (sd_ifF (v := !true) (pt_not (PD.t (pd_isC "Row" T.isinstance T.gRow (pd_var 0 rfl) T.tyRow T.isRow))) rfl (sds_nil rfl))
def RCheckOrder (K : PySem.W.Frag) (ds : List D) (r : D) : Prop := ∃ (x : Rw) (o : List Nat), ds = [rowD K x, .lst (o.map nD)] ∧ (∀ k ∈ o, k ∈ weirsOf x) ∧ o.length ≤ 15 ∧ r = .non
abbrev C_check_order (P : Program) (w : World) (K : PySem.W.Frag) (mg : Str → Option Value) (base : Heap) : Prop := Fn P w K mg base "check_order" ["row", "order"] 2 (SpP ⟨P, w, K⟩ (RCheckOrder K)) []
theorem sc_check_order : FnScope ["row", "order", "place", "weir"] ["row", "order"] (defScope s_check_order) := ⟨rfl, rfl, rfl, by decide +kernel, rfl, by decide +kernel, by decide +kernel⟩
theorem fn_check_order (T : Tx K mg) (F : Dfn K mg "check_order" s_check_order []) (Fis_whole : C_is_whole P w K mg base) (Min : M_in P w K mg base) : C_check_order P w K mg base := by
  have sc := sc_check_order
  refine F.fn (fun _ _ _ _ _ _ us hl => match us, hl with | [_, _], _ => rfl) fun f fd F => ?_
  refine fn_pure F sc (by rintro ds r ⟨_, _, rfl, _⟩; rfl) (by decide) fun cdv A outer s H ds r hr hR => ?_
  obtain ⟨x, o, rfl, ho, hl, rfl⟩ := hR
  refine sds_cons (sd_ifF (v := false) (PTD.is (pt_or2 (pt_not (pd_isSeq T.isinstance T.list T.tuple (pd_var 1 rfl) rfl).t) (fun _ => (pt_gt (pd_len T.len (pd_var 1 rfl) rfl) (pd_glob T.MOST_ORDER)))) ?_) rfl (sds_nil ?_))
  · have e : ¬ ((20000 : Int) < ((o.map nD).length : Nat)) := by rw [List.length_map]; omega
    simp only [e, decide_false, Bool.not_true, Bool.or_self]
  refine sds_one (sd_for (fun k ρ => ∃ e1 e2, ρ = [.d (rowD K x), .d (.lst (o.map nD)), e1, e2]) (src_enum T.enumerate (pd_var 1 rfl)) ⟨_, _, rfl⟩ (fun k d ρ hd hI => ?_) (fun ρ hI => rfl))
  obtain ⟨e1, e2, rfl⟩ := hI
  have hk : k < o.length := by have := (List.getElem?_eq_some_iff.mp hd).1; rw [enD_len, List.length_map] at this; exact this
  have hx : (o.map nD)[k]? = some (nD o[k]) := by rw [List.getElem?_map, List.getElem?_eq_getElem hk]; rfl
  rw [enD_get hx] at hd
  cases hd
  refine ⟨_, _, (gd_tup2 (gd_name 2 sc.nd) (gd_name 3 sc.nd)), ?_⟩
  exact sds_one (sd_ifF (v := !true || !true) (pt_or2 (pt_not (pd_call Fis_whole (hr.mono (by decide)) dfl_nil (pad_cons (pd_var 3 rfl) pad_nil) isWhole_int).t) (fun _ => (pt_notInC (v := true) Min (hr.mono (by decide)) (pd_var 3 rfl) (pd_var 0 rfl) ⟨x, _, rfl, ho _ (List.getElem_mem hk), rfl⟩))) rfl (sds_nil ⟨_, _, rfl⟩))
theorem dfl_opened {dv : V} (h : ∀ B : Bs, ∀ H, Rep B H (qd 1) dv) {B : Bs} : Dfl B [qd 1] [dv] := fun H => .cons (h B H) .nil
def RBehind (K : PySem.W.Frag) (ds : List D) (r : D) : Prop := ∃ x o Dn M, ds = [rowD K x, .lst (o.map nD)] ∧ OrdOk x o Dn M ∧ r = rowD K { x with vo := behindV x.ar x.vo o }
abbrev C_behind (P : Program) (w : World) (K : PySem.W.Frag) (mg : Str → Option Value) (base : Heap) : Prop := Fn P w K mg base "behind" ["row", "order"] 8 (SpP ⟨P, w, K⟩ (RBehind K)) []
theorem sc_behind : FnScope ["row", "order", "weir"] ["row", "order"] (defScope s_behind) := ⟨rfl, rfl, rfl, by decide +kernel, rfl, by decide +kernel, by decide +kernel⟩
theorem fn_behind (T : Tx K mg) (F : Dfn K mg "behind" s_behind []) {dv : V} (hdv : Dfl ⟨P, w, K⟩ [qd 1] [dv]) (Fcheck_row : C_check_row P w K mg base) (Fcheck_order : C_check_order P w K mg base) (Mop : M_opened2 P w K mg base dv) : C_behind P w K mg base := by
  have sc := sc_behind
  refine F.fn (fun _ _ _ _ _ _ us hl => match us, hl with | [_, _], _ => rfl) fun f fd F => ?_
  refine fn_pure F sc (by rintro ds r ⟨_, _, _, _, rfl, _⟩; rfl) (by decide) fun cdv A outer s H ds r hr hR => ?_
  obtain ⟨x, o, Dn, M, rfl, ho, rfl⟩ := hR
  refine sds_cons (sd_expr (pd_call (r := .non) Fcheck_row (hr.mono (by decide)) dfl_nil (pad_cons (pd_var 0 rfl) pad_nil) ⟨x, rfl, rfl⟩) ?_)
  refine sds_cons (sd_expr (pd_call (r := .non) Fcheck_order (hr.mono (by decide)) dfl_nil (pad_cons (pd_var 0 rfl) (pad_cons (pd_var 1 rfl) pad_nil)) ⟨x, o, rfl, ho.w, ho.len, rfl⟩) ?_)
  refine sds_cons (sd_for (fun k ρ => ∃ e, ρ = [.d (rowD K { x with vo := behindV x.ar x.vo (o.take k) }), .d (.lst (o.map nD)), e]) (src_list (pd_var 1 rfl)) ⟨_, rfl⟩ (fun k d ρ hd hI => ?_) (fun ρ hI => ?_))
  · obtain ⟨e, rfl⟩ := hI
    have hk : k < o.length := by have := (List.getElem?_eq_some_iff.mp hd).1; rw [List.length_map] at this; exact this
    have hko := List.getElem?_eq_getElem hk
    rw [List.getElem?_map, hko] at hd
    cases hd
    obtain ⟨h1, _⟩ := behind_step ho k (by omega)
    obtain ⟨D', M', hop⟩ := behind_op ho hk
    refine ⟨_, _, (gd_name 2 sc.nd), ?_⟩
    refine sds_one (sd_asg 0 (pd_meth Mop (hr.mono (by decide)) hdv (pd_var 0 rfl) (pad_cons (pd_var 2 rfl) pad_nil) rfl ⟨_, o[k], 1, D', M', 1, rfl, h1, ho.w _ (List.getElem_mem hk), by decide, by decide, hop, rfl⟩) ⟨E.d (nD o[k]), ?_⟩ sc.nd)
    have : behindV x.ar x.vo (o.take (k + 1)) = openV x.ar (behindV x.ar x.vo (o.take k)) o[k] 1 := foldl_take_succ _ _ hko
    rw [this]; rfl
  · obtain ⟨e, rfl⟩ := hI
    refine sds_one (sd_ret (pd_var 0 rfl) ?_)
    rw [List.length_map, List.take_length]
/-! ### stretches, points, lines -/
def pairD (q : Nat × Nat) : D := .tup [nD q.1, nD q.2]
theorem zip_pairs : ∀ L M : List Nat, zipD (L.map nD) (M.map nD) = (L.zip M).map pairD
  | [], _ => rfl
  | _ :: _, [] => rfl
  | a :: L, b :: M => by
    show D.tup [nD a, nD b] :: zipD (L.map nD) (M.map nD) = _
    rw [zip_pairs L M]; rfl
def RStretches (K : PySem.W.Frag) (ds : List D) (r : D) : Prop := ∃ x, ds = [rowD K x] ∧ RowOk x ∧ r = .lst ((pairsN (marksOf x)).map pairD)
abbrev C_stretches (P : Program) (w : World) (K : PySem.W.Frag) (mg : Str → Option Value) (base : Heap) : Prop := Fn P w K mg base "stretches" ["row"] 3 (SpP ⟨P, w, K⟩ (RStretches K)) []
theorem sc_stretches : FnScope ["row", "marks"] ["row"] (defScope s_stretches) := ⟨rfl, rfl, rfl, by decide +kernel, rfl, by decide +kernel, by decide +kernel⟩
theorem fn_stretches (T : Tx K mg) (F : Dfn K mg "stretches" s_stretches []) (Mlen : M_len P w K mg base) : C_stretches P w K mg base := by
  have sc := sc_stretches
  refine F.fn (fun _ _ _ _ _ _ us hl => match us, hl with | [_], _ => rfl) fun f fd F => ?_
  refine fn_pure F sc (by rintro ds r ⟨_, rfl, _⟩; rfl) (by decide) fun cdv A outer s H ds r hr hR => ?_
  obtain ⟨x, rfl, hx, rfl⟩ := hR
  have hm := hx.most
  have hlk := hx.lk64
  refine sds_cons (sd_asg (d := .lst ((marksOf x).map nD)) 1 (PD.is (PL.lst (pl_lst (pad_cons pd_int (pad_starT (pd_fld (pd_var 0 rfl) T.clRow T.noRow_locks rfl) (pad_cons (pd_lenC (i := (x.ar.length : Nat)) Mlen T.len (hr.mono (by decide)) (pd_var 0 rfl) ⟨x, rfl, rfl⟩ (by omega)) pad_nil))) ?_)) ?_) ?_ sc.nd)
  · refine Nat.le_trans (m := 100000) ?_ (by decide)
    simp only [List.length_append, List.length_cons, List.length_map, List.length_nil]
    omega
  · unfold marksOf
    rw [List.map_cons, List.map_append]
    rfl
  refine sds_one (sd_ret (PL.lst (pl_listZ (xs := (marksOf x).map nD) (ys := (marksOf x).tail.map nD) T.list T.zip (pd_var 1 rfl) (PD.is (PL.lst (pl_cut (pd_var 1 rfl) (pod_some pd_int) pod_none)) ?_))) ?_)
  · have := cut_from (xs := (marksOf x).map nD) (n := 1)
    rw [show ((1 : Nat) : Int) = 1 from rfl] at this
    rw [this, ← List.map_drop, List.drop_one]
  · rw [zip_pairs]; rfl
def RStretchOf (K : PySem.W.Frag) (ds : List D) (r : D) : Prop := ∃ x p, ds = [rowD K x, nD p] ∧ RowOk x ∧ p ≤ x.ar.length ∧ r = pairD (stretchAt x p)
abbrev C_stretch_of (P : Program) (w : World) (K : PySem.W.Frag) (mg : Str → Option Value) (base : Heap) : Prop := Fn P w K mg base "stretch_of" ["row", "place"] 4 (SpP ⟨P, w, K⟩ (RStretchOf K)) []
theorem filter_pairs (f : D → D) (t : D → Bool) (p : Nat × Nat → Bool) (h : ∀ q, t (pairD q) = p q) (hf : ∀ q, f (pairD q) = pairD q) (xs : List (Nat × Nat)) : ((xs.map pairD).filter t).map f = (xs.filter p).map pairD := by
  rw [List.filter_map, List.map_map]
  have : (t ∘ pairD) = p := funext h
  rw [this]
  apply List.map_congr_left
  intro q _
  exact hf q
def betweenD (p : Nat) (d : D) : Bool := match d with | .tup [.int a, .int b] => decide (a ≤ (p : Int)) && decide ((p : Int) ≤ b) | _ => false
theorem between_pair (p : Nat) (q : Nat × Nat) : betweenD p (pairD q) = (decide (q.1 ≤ p) && decide (p ≤ q.2)) := by
  show (decide ((q.1 : Int) ≤ (p : Int)) && decide ((p : Int) ≤ (q.2 : Int))) = _
  rw [decide_eq_decide.mpr Int.ofNat_le, decide_eq_decide.mpr Int.ofNat_le]
theorem pairs_len (L : List Nat) : (pairsN L).length ≤ L.length := by
  unfold pairsN
  rw [List.length_zip, List.length_tail]
  omega
theorem sc_stretch_of : FnScope ["row", "place", "one"] ["row", "place"] (defScope s_stretch_of) := ⟨rfl, rfl, rfl, by decide +kernel, rfl, by decide +kernel, by decide +kernel⟩
theorem fn_stretch_of (T : Tx K mg) (F : Dfn K mg "stretch_of" s_stretch_of []) (Fstretches : C_stretches P w K mg base) : C_stretch_of P w K mg base := by
  have sc := sc_stretch_of
  refine F.fn (fun _ _ _ _ _ _ us hl => match us, hl with | [_, _], _ => rfl) fun f fd F => ?_
  refine fn_pure F sc (by rintro ds r ⟨_, _, rfl, _⟩; rfl) (by decide) fun cdv A outer s H ds r hr hR => ?_
  obtain ⟨x, p, rfl, hx, hp, rfl⟩ := hR
  have hm := hx.most
  have hlk := hx.lk64
  refine sds_one (sd_ret (pd_at (d := pairD (stretchAt x p)) (PL.lst (pl_lc (own := [("one", 2)]) (lcr_filter (src_list (pd_call (r := .lst ((pairsN (marksOf x)).map pairD)) Fstretches (hr.mono (by decide)) dfl_nil (pad_cons (pd_var 0 rfl) pad_nil) ⟨x, rfl, hx, rfl⟩)) id (betweenD p) [2] [2] (by decide) (no1 rfl) ?_ (fun d hd => ?_)) sc.nd rfl)) pd_int (atD_lst ?_)) rfl)
  · rw [List.length_map]
    have := pairs_len (marksOf x)
    have h2 : (marksOf x).length = x.lk.length + 2 := by unfold marksOf; simp
    omega
  · obtain ⟨q, _, rfl⟩ := List.mem_map.mp hd
    exact ⟨_, fun _ _ _ _ _ => (gd_name 2 sc.nd), fun _ _ _ _ _ => (pt_lele (pd_at (d := nD q.1) (pd_var 2 rfl) pd_int rfl) (pd_var 1 rfl) (pd_at (d := nD q.2) (pd_var 2 rfl) pd_int rfl)), fun ht _ _ _ _ _ => (pd_var 2 rfl), rfl⟩
  · rw [filter_pairs id (betweenD p) _ (between_pair p) (fun _ => rfl)]
    obtain ⟨h1, _⟩ := findP_spec (marks_chain hx) hx.pos (Nat.zero_le p) hp
    exact atI_map (f := pairD) (atI_n (j := 0) h1)
end
end WL
set_option Elab.async false
set_option linter.all false
set_option maxRecDepth 100000
set_option maxHeartbeats 4000000
namespace WL
open PySem PySem.Spec PyProof.Rows L2
def ptList (x : Rw) : List D := zipD ((nsums x.ar).map nD) ((psums x.vo).map qd)
def pointsD (x : Rw) : D := .lst (ptList x)
def ptD (x : Rw) (k : Nat) : D := .tup [nD (Xv x k), qd (Wv x k)]
theorem pt_get {x : Rw} (h : RowOk x) {k : Nat} (hk : k ≤ x.ar.length) : (ptList x)[k]? = some (ptD x k) := by
  have h1 : ((nsums x.ar).map nD)[k]? = some (nD (Xv x k)) := by rw [List.getElem?_map, nsums_get hk]; rfl
  have h2 : ((psums x.vo).map qd)[k]? = some (qd (Wv x k)) := by rw [List.getElem?_map, psums_get (by rw [h.len]; exact hk)]; rfl
  exact zipD_get h1 h2
theorem pt_at {x : Rw} (h : RowOk x) {k : Nat} (hk : k ≤ x.ar.length) : atD (pointsD x) (k : Int) = some (ptD x k) := atD_lst (atI_n (pt_get h hk))
section
variable {P : Program} {w : World} {K : PySem.W.Frag} {mg : Str → Option Value} {base : Heap}
def RPoints (K : PySem.W.Frag) (ds : List D) (r : D) : Prop := ∃ x, ds = [rowD K x] ∧ RowOk x ∧ RowSz x ∧ r = pointsD x
abbrev C_points_of (P : Program) (w : World) (K : PySem.W.Frag) (mg : Str → Option Value) (base : Heap) : Prop := Fn P w K mg base "points_of" ["row"] 5 (SpP ⟨P, w, K⟩ (RPoints K)) []
theorem sc_points_of : FnScope ["row"] ["row"] (defScope s_points_of) := ⟨rfl, rfl, rfl, by decide +kernel, rfl, by decide +kernel, by decide +kernel⟩
theorem fn_points_of (T : Tx K mg) (F : Dfn K mg "points_of" s_points_of []) (Mreaches : M_reaches P w K mg base) (Msums : M_sums P w K mg base) : C_points_of P w K mg base := by
  have sc := sc_points_of
  refine F.fn (fun _ _ _ _ _ _ us hl => match us, hl with | [_], _ => rfl) fun f fd F => ?_
  refine fn_pure F sc (by rintro ds r ⟨_, rfl, _⟩; rfl) (by decide) fun cdv A outer s H ds r hr hR => ?_
  obtain ⟨x, rfl, hx, hs, rfl⟩ := hR
  have hm := hx.most
  exact sds_one (sd_ret (PL.lst (pl_listZ T.list T.zip (pd_meth0 (r := .lst ((nsums x.ar).map nD)) Mreaches (hr.mono (by decide)) dfl_nil (pd_var 0 rfl) rfl ⟨x, rfl, by omega, rfl⟩) (pd_meth0 (r := .lst ((psums x.vo).map qd)) Msums (hr.mono (by decide)) dfl_nil (pd_var 0 rfl) rfl ⟨x, rfl, by rw [hx.len]; omega, hs.q, hs.sums hx, rfl⟩))) rfl)
theorem part1_ok (t : Int) : RPart [.int t, .int 1] (qd ((t : Int) : Rat)) := ⟨t, 1, rfl, by decide, Nat.lt_of_lt_of_le (show (1 : Int).natAbs < 2 ^ 1 by decide) (Nat.pow_le_pow_right (by decide) (by omega)), by rw [divInt_one]⟩
def ROnLine (ds : List D) (r : D) : Prop := ∃ x i j p, ds = [pointsD x, nD i, nD j, nD p] ∧ RowOk x ∧ RowSz x ∧ i < j ∧ j ≤ x.ar.length ∧ p ≤ x.ar.length ∧ r = qd (lineV x i j p)
abbrev C_on_line (P : Program) (w : World) (K : PySem.W.Frag) (mg : Str → Option Value) (base : Heap) : Prop := Fn P w K mg base "on_line" ["points", "one", "other", "place"] 4 (SpP ⟨P, w, K⟩ ROnLine) []
theorem sc_on_line : FnScope ["points", "one", "other", "place", "rise"] ["points", "one", "other", "place"] (defScope s_on_line) := ⟨rfl, rfl, rfl, by decide +kernel, rfl, by decide +kernel, by decide +kernel⟩
theorem fn_on_line (T : Tx K mg) (F : Dfn K mg "on_line" s_on_line []) (Fpart : C_part1 P w K mg base) (Fplus : C_plus P w K mg base) (Fminus : C_minus P w K mg base) (Ftimes : C_times P w K mg base) (Fover : C_over P w K mg base) : C_on_line P w K mg base := by
  have sc := sc_on_line
  refine F.fn (fun _ _ _ _ _ _ us hl => match us, hl with | [_, _, _, _], _ => rfl) fun f fd F => ?_
  refine fn_pure F sc (by rintro ds r ⟨_, _, _, _, rfl, _⟩; rfl) (by decide) fun cdv A outer s H ds r hr hR => ?_
  obtain ⟨x, i, j, p, rfl, hx, hs, hij, hj, hp, rfl⟩ := hR
  have ok := line_ok hs hx (p := p) hij hj
  have gi := pt_at hx (k := i) (by omega)
  have gj := pt_at hx hj
  have gp := pt_at hx hp
  refine sds_cons (sd_asg 4 (pd_call (r := qd ((Wv x j - Wv x i) / (((Xv x j : Int) - (Xv x i : Int) : Int) : Rat))) Fover (hr.mono (by decide)) dfl_nil (pad_cons (pd_call (r := qd (Wv x j - Wv x i)) Fminus (hr.mono (by decide)) dfl_nil (pad_cons (pd_at (d := qd (Wv x j)) (pd_at (pd_var 0 rfl) (pd_var 2 rfl) gj) pd_int rfl) (pad_cons (pd_at (d := qd (Wv x i)) (pd_at (pd_var 0 rfl) (pd_var 1 rfl) gi) pd_int rfl) pad_nil)) ⟨_, _, rfl, ok.wj, ok.wi, rfl⟩) (pad_cons (pd_call (r := qd (((Xv x j : Int) - (Xv x i : Int) : Int) : Rat)) Fpart (hr.mono (by decide)) dfl_one (pad_cons (pd_sub (pd_at (d := nD (Xv x j)) (pd_at (pd_var 0 rfl) (pd_var 2 rfl) gj) pd_int rfl) (pd_at (d := nD (Xv x i)) (pd_at (pd_var 0 rfl) (pd_var 1 rfl) gi) pd_int rfl)) pad_nil) (part1_ok _)) pad_nil)) ⟨_, _, rfl, ok.dw, ok.dx, ok.dx0, ok.dxs, rfl⟩) ?_ sc.nd)
  exact sds_one (sd_ret (pd_call Fplus (hr.mono (by decide)) dfl_nil (pad_cons (pd_at (d := qd (Wv x i)) (pd_at (pd_var 0 rfl) (pd_var 1 rfl) gi) pd_int rfl) (pad_cons (pd_call (r := qd ((Wv x j - Wv x i) / (((Xv x j : Int) - (Xv x i : Int) : Int) : Rat) * (((Xv x p : Int) - (Xv x i : Int) : Int) : Rat))) Ftimes (hr.mono (by decide)) dfl_nil (pad_cons (pd_var 4 rfl) (pad_cons (pd_call (r := qd (((Xv x p : Int) - (Xv x i : Int) : Int) : Rat)) Fpart (hr.mono (by decide)) dfl_one (pad_cons (pd_sub (pd_at (d := nD (Xv x p)) (pd_at (pd_var 0 rfl) (pd_var 3 rfl) gp) pd_int rfl) (pd_at (d := nD (Xv x i)) (pd_at (pd_var 0 rfl) (pd_var 1 rfl) gi) pd_int rfl)) pad_nil) (part1_ok _)) pad_nil)) ⟨_, _, rfl, ok.rise, ok.dp, rfl⟩) pad_nil)) ⟨_, _, rfl, ok.wi, ok.up, rfl⟩) rfl)
def RFlat (ds : List D) (r : D) : Prop := ∃ x up a b p, ds = [pointsD x, nD a, nD b, nD p, .bl up] ∧ RowOk x ∧ RowSz x ∧ a < b ∧ b < p ∧ p ≤ x.ar.length ∧ r = .bl (flatB x up a b p)
abbrev C_is_flat (P : Program) (w : World) (K : PySem.W.Frag) (mg : Str → Option Value) (base : Heap) : Prop := Fn P w K mg base "is_flat" ["points", "one", "middle", "other", "is_upper"] 5 (SpP ⟨P, w, K⟩ RFlat) []
theorem sc_is_flat : FnScope ["points", "one", "middle", "other", "is_upper", "even"] ["points", "one", "middle", "other", "is_upper"] (defScope s_is_flat) := ⟨rfl, rfl, rfl, by decide +kernel, rfl, by decide +kernel, by decide +kernel⟩
theorem fn_is_flat (T : Tx K mg) (F : Dfn K mg "is_flat" s_is_flat []) (Fon_line : C_on_line P w K mg base) (Fis_less : C_is_less P w K mg base) : C_is_flat P w K mg base := by
  have sc := sc_is_flat
  refine F.fn (fun _ _ _ _ _ _ us hl => match us, hl with | [_, _, _, _, _], _ => rfl) fun f fd F => ?_
  refine fn_pure F sc (by rintro ds r ⟨_, _, _, _, _, rfl, _⟩; rfl) (by decide) fun cdv A outer s H ds r hr hR => ?_
  obtain ⟨x, up, a, b, p, rfl, hx, hs, hab, hbp, hp, rfl⟩ := hR
  have ok := line_ok hs hx (i := a) (j := p) (p := b) (by omega) hp
  have gb := pt_at hx (k := b) (by omega)
  have sl : Sm (lineV x a p b) := ok.line.mono (by decide) (by decide)
  refine sds_cons (sd_asg 5 (pd_call Fon_line (hr.mono (by decide)) dfl_nil (pad_cons (pd_var 0 rfl) (pad_cons (pd_var 1 rfl) (pad_cons (pd_var 3 rfl) (pad_cons (pd_var 2 rfl) pad_nil)))) ⟨x, a, p, b, rfl, hx, hs, by omega, hp, by omega, rfl⟩) ?_ sc.nd)
  cases up with
  | true =>
    refine sds_cons (sd_ifT (v := true) (PD.t (pd_var 4 rfl)) rfl ?_)
    exact sds_one (sd_ret (pd_not (p := decide (lineV x a p b < Wv x b)) (pd_call Fis_less (hr.mono (by decide)) dfl_nil (pad_cons (pd_var 5 rfl) (pad_cons (pd_at (d := qd (Wv x b)) (pd_at (pd_var 0 rfl) (pd_var 2 rfl) gb) pd_int rfl) pad_nil)) ⟨_, _, rfl, sl, ok.wp, rfl⟩)) rfl)
  | false =>
    refine sds_cons (sd_ifF (v := false) (PD.t (pd_var 4 rfl)) rfl (sds_nil ?_))
    exact sds_one (sd_ret (pd_not (p := decide (Wv x b < lineV x a p b)) (pd_call Fis_less (hr.mono (by decide)) dfl_nil (pad_cons (pd_at (d := qd (Wv x b)) (pd_at (pd_var 0 rfl) (pd_var 2 rfl) gb) pd_int rfl) (pad_cons (pd_var 5 rfl) pad_nil)) ⟨_, _, rfl, ok.wp, sl, rfl⟩)) rfl)
def RCorners (ds : List D) (r : D) : Prop := ∃ x up a b, ds = [pointsD x, nD a, nD b, .bl up] ∧ RowOk x ∧ RowSz x ∧ a < b ∧ b ≤ x.ar.length ∧ r = .lst ((cornersOf x up a b).map nD)
abbrev C_corners (P : Program) (w : World) (K : PySem.W.Frag) (mg : Str → Option Value) (base : Heap) : Prop := Fn P w K mg base "corners" ["points", "first", "last", "is_upper"] 6 (SpP ⟨P, w, K⟩ RCorners) []
theorem sc_corners : FnScope ["points", "first", "last", "is_upper", "found", "place"] ["points", "first", "last", "is_upper"] (defScope s_corners) := ⟨rfl, rfl, rfl, by decide +kernel, rfl, by decide +kernel, by decide +kernel⟩
theorem fn_corners (T : Tx K mg) (F : Dfn K mg "corners" s_corners []) (Fis_flat : C_is_flat P w K mg base) : C_corners P w K mg base := by
  have sc := sc_corners
  refine F.fn (fun _ _ _ _ _ _ us hl => match us, hl with | [_, _, _, _], _ => rfl) fun f fd F => ?_
  refine fn_pure F sc (by rintro ds r ⟨_, _, _, _, rfl, _⟩; rfl) (by decide) fun cdv A outer s H ds r hr hR => ?_
  obtain ⟨x, up, a, b, rfl, hx, hs, hab, hb, rfl⟩ := hR
  have hm := hx.most
  refine sds_cons (sd_asgL 4 (pl_lst pad_nil (lenOk rfl)) (fun l => ?_) sc.nd)
  have en : (((b : Int) + 1) - (a : Int)).toNat = b + 1 - a := by omega
  refine sds_cons (sd_for (fun k ρ => ∃ e, ρ = [.d (pointsD x), .d (nD a), .d (nD b), .d (.bl up), .own l (.lst ((cornSt (flatB x up) a k).reverse.map nD)), e]) (src_range2 T.range (pd_var 1 rfl) (pd_add (pd_var 2 rfl) pd_int) (by omega)) ⟨_, rfl⟩ (fun k d ρ hd hI => ?_) (fun ρ hI => ?_))
  · obtain ⟨e, rfl⟩ := hI
    have hk : k < b + 1 - a := by have := (List.getElem?_eq_some_iff.mp hd).1; rw [rgFrom_len, en] at this; exact this
    rw [rgFrom_get (by rw [en]; exact hk)] at hd
    cases hd
    have ek : (a : Int) + (k : Int) = ((a + k : Nat) : Int) := by omega
    rw [ek]
    refine ⟨_, _, (gd_name 5 sc.nd), ?_⟩
    obtain ⟨c1, c2, c3⟩ := cornSt_spec (flatB x up) a k
    refine sds_cons (sd_while (fun ρ => ∃ st : List Nat, ρ = [.d (pointsD x), .d (nD a), .d (nD b), .d (.bl up), .own l (.lst (st.reverse.map nD)), .d (nD (a + k))] ∧ popF (flatB x up) (a + k) st = popF (flatB x up) (a + k) (cornSt (flatB x up) a k) ∧ st.Pairwise (· > ·) ∧ (∀ y ∈ st, a ≤ y ∧ y < a + k) ∧ st.length ≤ k)
      (fun ρ => match ρ with | [_, _, _, _, .own _ (.lst ys), _] => ys.length | _ => 0) ⟨_, rfl, rfl, c1, c2, ?_⟩ (fun ρ hI => ?_))
    · exact Nat.le_of_lt_succ (Nat.lt_succ_of_le (by
        have hlen : ∀ n, (cornSt (flatB x up) a n).length ≤ n := fun n => by
          have h1 := (cornSt_spec (flatB x up) a n).1
          have h2 := (cornSt_spec (flatB x up) a n).2.1
          have nd : ((cornSt (flatB x up) a n).map (· - a)).Nodup := by
            rw [List.nodup_iff_pairwise_ne, List.pairwise_map]
            refine (List.Pairwise.imp_of_mem ?_ h1)
            intro u v hu hv huv
            have := h2 u hu; have := h2 v hv
            omega
          have := List.Nodup.length_le_of_subset nd (l₂ := List.range n) fun y hy => by
            obtain ⟨u, hu, rfl⟩ := List.mem_map.mp hy
            have := h2 u hu
            exact List.mem_range.mpr (by omega)
          rw [List.length_map, List.length_range] at this
          exact this
        exact hlen k))
    obtain ⟨st, rfl, hp, hst, hmem, hlen⟩ := hI
    match st, hp, hst, hmem, hlen with
    | [], hp, hst, hmem, hlen =>
      refine ⟨false && false, _, (pt_and2 (p := false) (PTD.is (pt_gt (pd_lenO 4 T.len rfl) pd_int) (by simp)) (fun z => absurd z Bool.false_ne_true)), (fun hc => absurd hc Bool.false_ne_true), fun hc => ?_⟩
      refine sds_one (sd_append 4 rfl (pd_var 5 rfl) rfl (by simp) ⟨E.d (nD (a + k)), ?_⟩)
      rw [cornSt, ← hp, popF]
      · rfl
      · simp
    | [c], hp, hst, hmem, hlen =>
      refine ⟨false && false, _, (pt_and2 (p := false) (PTD.is (pt_gt (pd_lenO 4 T.len rfl) pd_int) (by simp)) (fun z => absurd z Bool.false_ne_true)), (fun hc => absurd hc Bool.false_ne_true), fun hc => ?_⟩
      refine sds_one (sd_append 4 rfl (pd_var 5 rfl) rfl (by simp) ⟨E.d (nD (a + k)), ?_⟩)
      rw [cornSt, ← hp, popF]
      · rfl
      · simp
    | c :: d :: rest, hp, hst, hmem, hlen =>
      have hcd : d < c := (List.pairwise_cons.mp hst).1 d (by simp)
      have hc1 := hmem c (by simp)
      have hd1 := hmem d (by simp)
      have hl2 : ((c :: d :: rest).reverse.map nD).length = rest.length + 2 := by simp
      have g1 : atI ((c :: d :: rest).reverse.map nD) (-1) = some (nD c) := atI_map (atI_last (by rw [List.getLast?_reverse]; rfl))
      have g2 : atI ((c :: d :: rest).reverse.map nD) (-2) = some (nD d) := by
        have hr2 : (c :: d :: rest).reverse = rest.reverse ++ [d, c] := by simp
        refine atI_map (atI_neg (m := 2) (by decide) (by simp) ?_)
        rw [hr2, List.getElem?_append_right (by simp)]
        simp
      refine ⟨true && flatB x up d c (a + k), _, (pt_and2 (p := true) (PTD.is (pt_gt (pd_lenO 4 T.len rfl) pd_int) (by rw [hl2]; exact decide_eq_true (by omega))) (fun _ => PD.t (pd_call Fis_flat (hr.mono (by decide)) dfl_nil (pad_cons (pd_var 0 rfl) (pad_cons (pd_atO 4 rfl (pd_neg pd_int) g2 rfl) (pad_cons (pd_atO 4 rfl (pd_neg pd_int) g1 rfl) (pad_cons (pd_var 5 rfl) (pad_cons (pd_var 3 rfl) pad_nil))))) ⟨x, up, d, c, a + k, rfl, hx, hs, hcd, hc1.2, by omega, rfl⟩))), fun hc => ?_, fun hc => ?_⟩
      · rw [Bool.true_and] at hc
        refine sds_one (sd_pop 4 rfl (by simp) ⟨⟨d :: rest, ?_, ?_, (List.pairwise_cons.mp hst).2, fun y hy => hmem y (List.mem_cons_of_mem _ hy), by simp at hlen ⊢; omega⟩, ?_⟩)
        · have : ((c :: d :: rest).reverse.map nD).dropLast = (d :: rest).reverse.map nD := by
            rw [List.reverse_cons, List.map_append]
            exact List.dropLast_concat
          rw [this]; rfl
        · rw [← hp]
          conv => rhs; rw [popF, if_pos hc]
        · show (((c :: d :: rest).reverse.map nD).dropLast).length < ((c :: d :: rest).reverse.map nD).length
          rw [List.length_dropLast, hl2]; omega
      · rw [Bool.true_and] at hc
        refine sds_one (sd_append 4 rfl (pd_var 5 rfl) rfl (by rw [hl2]; simp at hlen; omega) ⟨E.d (nD (a + k)), ?_⟩)
        rw [cornSt, ← hp, popF, if_neg (by rw [hc]; exact Bool.false_ne_true)]
        simp only [List.reverse_cons, List.map_append, List.map_cons, List.map_nil]
        rfl
  · obtain ⟨e, rfl⟩ := hI
    refine sds_one (sd_ret (pd_frz 4 rfl) ?_)
    rw [rgFrom_len, en]; rfl
end
end WL
set_option Elab.async false
set_option linter.all false
set_option maxRecDepth 100000
set_option maxHeartbeats 4000000
namespace WL
open PySem PySem.Spec PyProof.Rows L2
section
variable {P : Program} {w : World} {K : PySem.W.Frag} {mg : Str → Option Value} {base : Heap}
def REdgeAt (K : PySem.W.Frag) (ds : List D) (r : D) : Prop := ∃ x p up, ds = [rowD K x, nD p, .bl up] ∧ RowOk x ∧ RowSz x ∧ p ≤ x.ar.length ∧ r = pairD (edgeAt x p up)
abbrev C_edge_at (P : Program) (w : World) (K : PySem.W.Frag) (mg : Str → Option Value) (base : Heap) : Prop := Fn P w K mg base "edge_at" ["row", "place", "is_upper"] 7 (SpP ⟨P, w, K⟩ (REdgeAt K)) []
theorem sc_edge_at : FnScope ["row", "place", "is_upper", "first", "last", "marks", "one", "other"] ["row", "place", "is_upper"] (defScope s_edge_at) := ⟨rfl, rfl, rfl, by decide +kernel, rfl, by decide +kernel, by decide +kernel⟩
theorem corners_len (x : Rw) (up : Bool) {a b : Nat} (hb : b ≤ 24) : (cornersOf x up a b).length ≤ 30 := by
  unfold cornersOf
  rw [List.length_reverse]
  obtain ⟨h1, h2, _⟩ := cornSt_spec (flatB x up) a (b + 1 - a)
  have := sorted_len (n := 26) (xs := (cornSt (flatB x up) a (b + 1 - a)).reverse) (by rw [List.pairwise_reverse]; exact h1) fun y hy => by
    have := h2 y (List.mem_reverse.mp hy)
    omega
  rw [List.length_reverse] at this
  omega
theorem fn_edge_at (T : Tx K mg) (F : Dfn K mg "edge_at" s_edge_at []) (Fstretch_of : C_stretch_of P w K mg base) (Fpoints_of : C_points_of P w K mg base) (Fcorners : C_corners P w K mg base) : C_edge_at P w K mg base := by
  have sc := sc_edge_at
  refine F.fn (fun _ _ _ _ _ _ us hl => match us, hl with | [_, _, _], _ => rfl) fun f fd F => ?_
  refine fn_pure F sc (by rintro ds r ⟨_, _, _, rfl, _⟩; rfl) (by decide) fun cdv A outer s H ds r hr hR => ?_
  obtain ⟨x, p, up, rfl, hx, hs, hp, rfl⟩ := hR
  have hm := hx.most
  obtain ⟨s1, s2, s3, s4⟩ := stretch_spec hx hp
  refine sds_cons (sd_asgG (d := pairD (stretchAt x p)) (pd_call Fstretch_of (hr.mono (by decide)) dfl_nil (pad_cons (pd_var 0 rfl) (pad_cons (pd_var 1 rfl) pad_nil)) ⟨x, p, rfl, hx, hp, rfl⟩) (gd_tup2 (gd_name 3 sc.nd) (gd_name 4 sc.nd)) ?_)
  refine sds_cons (sd_asg (d := .lst ((cornersOf x up (stretchAt x p).1 (stretchAt x p).2).map nD)) 5 (pd_call Fcorners (hr.mono (by decide)) dfl_nil (pad_cons (pd_call (r := pointsD x) Fpoints_of (hr.mono (by decide)) dfl_nil (pad_cons (pd_var 0 rfl) pad_nil) ⟨x, rfl, hx, hs, rfl⟩) (pad_cons (pd_var 3 rfl) (pad_cons (pd_var 4 rfl) (pad_cons (pd_var 2 rfl) pad_nil)))) ⟨x, up, _, _, rfl, hx, hs, s3, s4, rfl⟩) ?_ sc.nd)
  have cl := corners_len x up (a := (stretchAt x p).1) (b := (stretchAt x p).2) (by omega)
  have cc := corners_chain x up (Nat.le_of_lt s3)
  have he : edgeAt x p up = findP (cornersOf x up (stretchAt x p).1 (stretchAt x p).2) p := rfl
  rw [he]
  generalize cornersOf x up (stretchAt x p).1 (stretchAt x p).2 = L at *
  refine sds_one (sd_ret (pd_at (d := pairD (findP L p)) (PL.lst (pl_lc (own := [("one", 6), ("other", 7)]) (lcr_filter (xs := zipD (L.map nD) (L.tail.map nD)) (src_zipL T.zip (pd_var 5 rfl) (PD.is (PL.lst (pl_cut (pd_var 5 rfl) (pod_some pd_int) pod_none)) ?_)) (fun d => d) (betweenD p) [6, 7] [6, 7] (by decide) (no2 rfl rfl) ?_ (fun d hd => ?_)) sc.nd rfl)) pd_int (atD_lst ?_)) rfl)
  · have := cut_from (xs := L.map nD) (n := 1)
    rw [show ((1 : Nat) : Int) = 1 from rfl] at this
    rw [this, ← List.map_drop, List.drop_one]
  · rw [zipD_len, List.length_map]
    omega
  · rw [zip_pairs] at hd
    obtain ⟨q, _, rfl⟩ := List.mem_map.mp hd
    exact ⟨_, fun _ _ _ _ _ => (gd_tup2 (gd_name 6 sc.nd) (gd_name 7 sc.nd)), fun _ _ _ _ _ => (pt_lele (pd_var 6 rfl) (pd_var 1 rfl) (pd_var 7 rfl)), fun ht _ _ _ _ _ => (pd_tup (pad_cons (pd_var 6 rfl) (pad_cons (pd_var 7 rfl) pad_nil)) (lenOk rfl)), rfl⟩
  · rw [zip_pairs, filter_pairs (fun d => d) (betweenD p) _ (between_pair p) (fun _ => rfl)]
    obtain ⟨h1, _⟩ := findP_spec cc s3 s1 s2
    exact atI_map (f := pairD) (atI_n (j := 0) h1)
def RCheckPlace (K : PySem.W.Frag) (ds : List D) (r : D) : Prop := ∃ (x : Rw) (p : Nat), ds = [rowD K x, nD p] ∧ p ≤ x.ar.length ∧ x.ar.length ≤ 24 ∧ r = .non
abbrev C_check_place (P : Program) (w : World) (K : PySem.W.Frag) (mg : Str → Option Value) (base : Heap) : Prop := Fn P w K mg base "check_place" ["row", "place"] 3 (SpP ⟨P, w, K⟩ (RCheckPlace K)) []
theorem sc_check_place : FnScope ["row", "place"] ["row", "place"] (defScope s_check_place) := ⟨rfl, rfl, rfl, by decide +kernel, rfl, by decide +kernel, by decide +kernel⟩
theorem fn_check_place (T : Tx K mg) (F : Dfn K mg "check_place" s_check_place []) (Fcheck_row : C_check_row P w K mg base) (Fis_whole : C_is_whole P w K mg base) (Mlen : M_len P w K mg base) : C_check_place P w K mg base := by
  have sc := sc_check_place
  refine F.fn (fun _ _ _ _ _ _ us hl => match us, hl with | [_, _], _ => rfl) fun f fd F => ?_
  refine fn_pure F sc (by rintro ds r ⟨_, _, rfl, _⟩; rfl) (by decide) fun cdv A outer s H ds r hr hR => ?_
  obtain ⟨x, p, rfl, hp, hm, rfl⟩ := hR
  refine sds_cons (sd_expr (pd_call (r := .non) Fcheck_row (hr.mono (by decide)) dfl_nil (pad_cons (pd_var 0 rfl) pad_nil) ⟨x, rfl, rfl⟩) ?_)
  refine sds_one (sd_ifF (v := false) (PTD.is (pt_or2 (pt_not (PD.t (pd_call Fis_whole (hr.mono (by decide)) dfl_nil (pad_cons (pd_var 1 rfl) pad_nil) isWhole_int))) (fun _ => (pt_not (pt_lele pd_int (pd_var 1 rfl) (pd_lenC (i := (x.ar.length : Nat)) Mlen T.len (hr.mono (by decide)) (pd_var 0 rfl) ⟨x, rfl, rfl⟩ (by omega)))))) ?_) rfl (sds_nil rfl))
  have e1 : (0 : Int) ≤ (p : Nat) := by omega
  have e2 : ((p : Nat) : Int) ≤ (x.ar.length : Nat) := by omega
  simp only [e1, e2, decide_true, Bool.and_self, Bool.not_true, Bool.or_self]
/-! ### High, Low -/
def REdgeI (C : Addr) (o : O) (ds : List D) (o' : O) (r : D) : Prop := ∃ dx a b c, o = .ins C dx [] [] ∧ ds = [a, b, c] ∧ o' = .ins C dx ["number", "one", "other"] [a, b, c] ∧ r = .non
abbrev C_High (P : Program) (w : World) (K : PySem.W.Frag) (mg : Str → Option Value) (base : Heap) : Prop := Mc P w K mg base "High" (cA K "High") ["self", "number", "one", "other"] 1 (SpO ⟨P, w, K⟩ (REdgeI (cA K "High"))) []
abbrev C_Low (P : Program) (w : World) (K : PySem.W.Frag) (mg : Str → Option Value) (base : Heap) : Prop := Mc P w K mg base "Low" (cA K "Low") ["self", "number", "one", "other"] 1 (SpO ⟨P, w, K⟩ (REdgeI (cA K "Low"))) []
theorem sc_Edge___init__ : FnScope ["self", "number", "one", "other"] ["self", "number", "one", "other"] (defScope s_Edge___init__) := ⟨rfl, rfl, rfl, by decide +kernel, rfl, by decide +kernel, by decide +kernel⟩
theorem ok_Edge {C f : Addr} {fd : FuncData} (cl : Cls K C) (n1 : NoAttr K C "number") (n2 : NoAttr K C "one") (n3 : NoAttr K C "other") (F : FunD K "__init__" "Edge.__init__" (defArgs s_Edge___init__) (defBody s_Edge___init__) (defScope s_Edge___init__) [] [] f fd) :
    FnOk P w K mg base CX0 1 f fd ["self", "number", "one", "other"] (SpO ⟨P, w, K⟩ (REdgeI C)) := by
  have sc := sc_Edge___init__
  refine fn_own F sc (by rintro o ds o' r ⟨_, _, _, _, _, rfl, _⟩; rfl) (by decide) fun cdv A outer s H l o ds o' r hr hR => ?_
  obtain ⟨dx, a, b, c, rfl, rfl, rfl, rfl⟩ := hR
  refine sds_cons (sd_fld 0 rfl (pd_var 1 rfl) rfl (by decide) (by decide) cl n1 ?_)
  refine sds_cons (sd_fld 0 rfl (pd_var 2 rfl) rfl (by decide) (by decide) cl n2 ?_)
  exact sds_one (sd_fld 0 rfl (pd_var 3 rfl) rfl (by decide) (by decide) cl n3 ⟨rfl, rfl⟩)
theorem mc_High (T : Tx K mg) (F : Cdf K mg "High" "Edge.__init__" s_Edge___init__ []) : C_High P w K mg base :=
  F.mc (fun _ _ _ _ _ _ us hl => match us, hl with | [_, _, _, _], _ => rfl) fun f fd F => ok_Edge T.clHigh T.noHigh_number T.noHigh_one T.noHigh_other F
theorem mc_Low (T : Tx K mg) (F : Cdf K mg "Low" "Edge.__init__" s_Edge___init__ []) : C_Low P w K mg base :=
  F.mc (fun _ _ _ _ _ _ us hl => match us, hl with | [_, _, _, _], _ => rfl) fun f fd F => ok_Edge T.clLow T.noLow_number T.noLow_one T.noLow_other F
def edgeD (C : Addr) (x : Rw) (p : Nat) (up : Bool) : D := .ins C ["number", "one", "other"] [qd (edgeV x p up), nD (edgeAt x p up).1, nD (edgeAt x p up).2]
def REdge (K : PySem.W.Frag) (C : Addr) (up : Bool) (ds : List D) (r : D) : Prop := ∃ x p, ds = [rowD K x, nD p] ∧ RowOk x ∧ RowSz x ∧ p ≤ x.ar.length ∧ r = edgeD C x p up
abbrev C_highest (P : Program) (w : World) (K : PySem.W.Frag) (mg : Str → Option Value) (base : Heap) : Prop := Fn P w K mg base "highest" ["row", "place"] 8 (SpP ⟨P, w, K⟩ (REdge K (cA K "High") true)) []
abbrev C_lowest (P : Program) (w : World) (K : PySem.W.Frag) (mg : Str → Option Value) (base : Heap) : Prop := Fn P w K mg base "lowest" ["row", "place"] 8 (SpP ⟨P, w, K⟩ (REdge K (cA K "Low") false)) []
theorem sc_highest : FnScope ["row", "place", "one", "other"] ["row", "place"] (defScope s_highest) := ⟨rfl, rfl, rfl, by decide +kernel, rfl, by decide +kernel, by decide +kernel⟩
theorem fn_highest (T : Tx K mg) (F : Dfn K mg "highest" s_highest []) (Fcheck_place : C_check_place P w K mg base) (Fedge_at : C_edge_at P w K mg base) (Fpoints_of : C_points_of P w K mg base) (Fon_line : C_on_line P w K mg base) (FHigh : C_High P w K mg base) : C_highest P w K mg base := by
  have sc := sc_highest
  refine F.fn (fun _ _ _ _ _ _ us hl => match us, hl with | [_, _], _ => rfl) fun f fd F => ?_
  refine fn_pure F sc (by rintro ds r ⟨_, _, rfl, _⟩; rfl) (by decide) fun cdv A outer s H ds r hr hR => ?_
  obtain ⟨x, p, rfl, hx, hs, hp, rfl⟩ := hR
  obtain ⟨e1, e2, e3, e4, _⟩ := edge_spec true hx hp
  refine sds_cons (sd_expr (pd_call (r := .non) Fcheck_place (hr.mono (by decide)) dfl_nil (pad_cons (pd_var 0 rfl) (pad_cons (pd_var 1 rfl) pad_nil)) ⟨x, p, rfl, hp, hx.most, rfl⟩) ?_)
  refine sds_cons (sd_asgG (d := pairD (edgeAt x p true)) (pd_call Fedge_at (hr.mono (by decide)) dfl_nil (pad_cons (pd_var 0 rfl) (pad_cons (pd_var 1 rfl) (pad_cons pd_bl pad_nil))) ⟨x, p, true, rfl, hx, hs, hp, rfl⟩) (gd_tup2 (gd_name 2 sc.nd) (gd_name 3 sc.nd)) ?_)
  exact sds_one (sd_ret (pd_make FHigh (hr.mono (by decide)) dfl_nil (pad_cons (pd_call (r := qd (edgeV x p true)) Fon_line (hr.mono (by decide)) dfl_nil (pad_cons (pd_call (r := pointsD x) Fpoints_of (hr.mono (by decide)) dfl_nil (pad_cons (pd_var 0 rfl) pad_nil) ⟨x, rfl, hx, hs, rfl⟩) (pad_cons (pd_var 2 rfl) (pad_cons (pd_var 3 rfl) (pad_cons (pd_var 1 rfl) pad_nil)))) ⟨x, _, _, p, rfl, hx, hs, e3, e4, hp, rfl⟩) (pad_cons (pd_var 2 rfl) (pad_cons (pd_var 3 rfl) pad_nil))) (fun dx => ⟨dx, _, _, _, rfl, rfl, rfl, rfl⟩)) rfl)
theorem sc_lowest : FnScope ["row", "place", "one", "other"] ["row", "place"] (defScope s_lowest) := ⟨rfl, rfl, rfl, by decide +kernel, rfl, by decide +kernel, by decide +kernel⟩
theorem fn_lowest (T : Tx K mg) (F : Dfn K mg "lowest" s_lowest []) (Fcheck_place : C_check_place P w K mg base) (Fedge_at : C_edge_at P w K mg base) (Fpoints_of : C_points_of P w K mg base) (Fon_line : C_on_line P w K mg base) (FLow : C_Low P w K mg base) : C_lowest P w K mg base := by
  have sc := sc_lowest
  refine F.fn (fun _ _ _ _ _ _ us hl => match us, hl with | [_, _], _ => rfl) fun f fd F => ?_
  refine fn_pure F sc (by rintro ds r ⟨_, _, rfl, _⟩; rfl) (by decide) fun cdv A outer s H ds r hr hR => ?_
  obtain ⟨x, p, rfl, hx, hs, hp, rfl⟩ := hR
  obtain ⟨e1, e2, e3, e4, _⟩ := edge_spec false hx hp
  refine sds_cons (sd_expr (pd_call (r := .non) Fcheck_place (hr.mono (by decide)) dfl_nil (pad_cons (pd_var 0 rfl) (pad_cons (pd_var 1 rfl) pad_nil)) ⟨x, p, rfl, hp, hx.most, rfl⟩) ?_)
  refine sds_cons (sd_asgG (d := pairD (edgeAt x p false)) (pd_call Fedge_at (hr.mono (by decide)) dfl_nil (pad_cons (pd_var 0 rfl) (pad_cons (pd_var 1 rfl) (pad_cons pd_bl pad_nil))) ⟨x, p, false, rfl, hx, hs, hp, rfl⟩) (gd_tup2 (gd_name 2 sc.nd) (gd_name 3 sc.nd)) ?_)
  exact sds_one (sd_ret (pd_make FLow (hr.mono (by decide)) dfl_nil (pad_cons (pd_call (r := qd (edgeV x p false)) Fon_line (hr.mono (by decide)) dfl_nil (pad_cons (pd_call (r := pointsD x) Fpoints_of (hr.mono (by decide)) dfl_nil (pad_cons (pd_var 0 rfl) pad_nil) ⟨x, rfl, hx, hs, rfl⟩) (pad_cons (pd_var 2 rfl) (pad_cons (pd_var 3 rfl) (pad_cons (pd_var 1 rfl) pad_nil)))) ⟨x, _, _, p, rfl, hx, hs, e3, e4, hp, rfl⟩) (pad_cons (pd_var 2 rfl) (pad_cons (pd_var 3 rfl) pad_nil))) (fun dx => ⟨dx, _, _, _, rfl, rfl, rfl, rfl⟩)) rfl)
end
end WL
set_option Elab.async false
set_option linter.all false
set_option maxRecDepth 100000
set_option maxHeartbeats 4000000
namespace WL
open PySem PySem.Spec PyProof.Rows L2
section
variable {X : Cx} {ρ ρ' ρ1 ρ2 : List E} {a b : Expr} {pos : Pos} {d : D} {i : Int} {P : Post}
/-- x, y = [..], 0 -/
theorem sd_parLO (n m : Nat) {o : O} {x y : Str} {px py pt pt2 pc : Pos} {kt k2 kc : Nat} (ha : PL X ρ a ρ1 o) (q : ∀ l, P.nx ((ρ1.set n (.own l o)).set m (.d (.int i)))) (nd : X.N.Nodup) (hc : X.calm = true := by rfl) (hi : X.N[n]? = some x := by rfl) (hj : X.N[m]? = some y := by rfl) (hij : n ≠ m := by decide)
    (hx : X.env.scope.names.lookup x = some .local := by rfl) (hy : X.env.scope.names.lookup y = some .local := by rfl)
    (hw : swappedStores [.Tuple [.Name x px, .Name y py] kt pt] (.Tuple [a, .Constant (.int i) kc pc] k2 pt2) X.env = pure (some [x, y]) := by rfl)
    (na : starEach [a, .Constant (.int i) kc pc] X.env = (false, eval a X.env) :: starEach [.Constant (.int i) kc pc] X.env := by rfl) (nb : starEach [.Constant (.int i) kc pc] X.env = (false, eval (.Constant (.int i) kc pc) X.env) :: starEach [] X.env := by rfl)
    (hs : swapsWithSole [.Tuple [.Name x px, .Name y py] kt pt] (.Tuple [a, .Constant (.int i) kc pc] k2 pt2) pos.line X.env = pure false := by rfl) :
    SD X ρ (.Assign [.Tuple [.Name x px, .Name y py] kt pt] (.Tuple [a, .Constant (.int i) kc pc] k2 pt2) pos) P := fun Hb0 H0 σ Hb H ev =>
  (ps_par hc nd hi hj hij hx hy (pa_cons pe_w (pa_cons pe_int pa_nil nb) na) hw hs).w (ha _ _ _ _ _ ev _ fun l Hb1 H1 ho e1 x1 nb n0 hl r no =>
    ⟨.ref l, .int i, rfl, _, Hb1, (e1.seto nb n0 hl r (no.set n)).setd rep_int, q l⟩)
/-- x, y = e, [..] -/
theorem sd_parOL (n m : Nat) {o : O} {x y : Str} {px py pt pt2 : Pos} {kt k2 : Nat} (ha : PD X ρ a ρ1 d) (hb : PL X ρ1 b ρ2 o) (q : ∀ l, P.nx ((ρ2.set n (.d d)).set m (.own l o))) (nd : X.N.Nodup) (hc : X.calm = true := by rfl) (hi : X.N[n]? = some x := by rfl) (hj : X.N[m]? = some y := by rfl) (hij : n ≠ m := by decide)
    (hx : X.env.scope.names.lookup x = some .local := by rfl) (hy : X.env.scope.names.lookup y = some .local := by rfl)
    (hw : swappedStores [.Tuple [.Name x px, .Name y py] kt pt] (.Tuple [a, b] k2 pt2) X.env = pure (some [x, y]) := by rfl)
    (na : starEach [a, b] X.env = (false, eval a X.env) :: starEach [b] X.env := by rfl) (nb : starEach [b] X.env = (false, eval b X.env) :: starEach [] X.env := by rfl)
    (hs : swapsWithSole [.Tuple [.Name x px, .Name y py] kt pt] (.Tuple [a, b] k2 pt2) pos.line X.env = pure false := by rfl) :
    SD X ρ (.Assign [.Tuple [.Name x px, .Name y py] kt pt] (.Tuple [a, b] k2 pt2) pos) P := fun Hb0 H0 σ Hb H ev =>
  (ps_par hc nd hi hj hij hx hy (pa_cons pe_w (pa_cons pe_w pa_nil nb) na) hw hs).w (ha _ _ _ _ _ ev _ fun v Hb1 H1 e1 x1 r1 => hb _ _ _ _ _ e1 _ fun l Hb2 H2 ho e2 x2 nb n0 hl r no =>
    ⟨v, .ref l, rfl, _, Hb2, (e2.setd (Rep.mono x2 _ _ r1)).seto nb n0 hl r (by
      intro j o' h
      rw [get_set] at h
      split at h
      · cases h
      · rw [get_set] at h
        split at h
        · cases h
        · exact no j o' h), q l⟩)
end
/-! ### the choices of some things -/
def someOf : List Nat → Nat → List (List Nat)
  | _, 0 => [[]]
  | ts, m + 1 => (List.range ts.length).flatMap fun i => (someOf (ts.drop (i + 1)) m).map (ts.getD i 0 :: ·)
def tupN (l : List Nat) : D := .tup (l.map nD)
theorem flatMap_take_succ {α β : Type} (g : α → List β) {xs : List α} {k : Nat} {x : α} (h : xs[k]? = some x) : (xs.take (k + 1)).flatMap g = (xs.take k).flatMap g ++ g x := by
  rw [List.take_add_one, h, List.flatMap_append]; simp
theorem range_flat_succ {β : Type} (g : Nat → List β) (k : Nat) : (List.range (k + 1)).flatMap g = (List.range k).flatMap g ++ g k := by
  rw [List.range_succ, List.flatMap_append]; simp
theorem flat_len {β : Type} (g : Nat → List β) (B : Nat) : ∀ k, (∀ i, i < k → (g i).length ≤ B) → ((List.range k).flatMap g).length ≤ k * B
  | 0, _ => by simp
  | k + 1, h => by
    rw [range_flat_succ, List.length_append, Nat.succ_mul]
    exact Nat.add_le_add (flat_len g B k fun i hi => h i (by omega)) (h k (by omega))
theorem someOf_len : ∀ (m : Nat) (ts : List Nat), ts.length ≤ 24 → (someOf ts m).length ≤ 24 ^ m
  | 0, ts, _ => by rw [someOf]; simp
  | m + 1, ts, h => by
    rw [someOf, Nat.pow_succ, Nat.mul_comm]
    refine Nat.le_trans (flat_len _ (24 ^ m) ts.length fun i _ => ?_) (Nat.mul_le_mul_right _ h)
    rw [List.length_map]
    exact someOf_len m _ (by rw [List.length_drop]; omega)
theorem someOf_mem : ∀ (m : Nat) (ts : List Nat), ∀ l ∈ someOf ts m, l.length = m ∧ ∀ y ∈ l, y ∈ ts
  | 0, ts, l, h => by rw [someOf] at h; simp at h; subst h; simp
  | m + 1, ts, l, h => by
    rw [someOf] at h
    obtain ⟨i, hi, h⟩ := List.mem_flatMap.mp h
    obtain ⟨l', hl', rfl⟩ := List.mem_map.mp h
    obtain ⟨h1, h2⟩ := someOf_mem m _ l' hl'
    refine ⟨by simp [h1], fun y hy => ?_⟩
    rcases List.mem_cons.mp hy with rfl | hy
    · exact getD_mem (List.mem_range.mp hi)
    · exact List.mem_of_mem_drop (h2 y hy)
section
variable {P : Program} {w : World} {K : PySem.W.Frag} {mg : Str → Option Value} {base : Heap}
def RSome (n : Nat) (ds : List D) (r : D) : Prop := ∃ (ts : List Nat) (m : Nat), ds = [.lst (ts.map nD), nD m] ∧ ts.length ≤ 24 ∧ m ≤ n ∧ r = .lst ((someOf ts m).map tupN)
abbrev C_some_of (P : Program) (w : World) (K : PySem.W.Frag) (mg : Str → Option Value) (base : Heap) (n : Nat) : Prop := Fn P w K mg base "some_of" ["things", "many"] (n + 1) (SpP ⟨P, w, K⟩ (RSome n)) []
theorem sc_some_of : FnScope ["things", "many", "found", "at", "thing", "rest"] ["things", "many"] (defScope s_some_of) := ⟨rfl, rfl, rfl, by decide +kernel, rfl, by decide +kernel, by decide +kernel⟩
theorem fn_some_0 (T : Tx K mg) (F : Dfn K mg "some_of" s_some_of []) : C_some_of P w K mg base 0 := by
  have sc := sc_some_of
  refine F.fn (fun _ _ _ _ _ _ us hl => match us, hl with | [_, _], _ => rfl) fun f fd F => ?_
  refine fn_pure F sc (by rintro ds r ⟨_, _, rfl, _⟩; rfl) (by decide) fun cdv A outer s H ds r hr hR => ?_
  obtain ⟨ts, m, rfl, ht, hm, rfl⟩ := hR
  obtain rfl : m = 0 := by omega
  refine sds_cons (sd_ifT (v := decide (((0 : Nat) : Int) = 0)) (pt_eq (pd_var 1 rfl) pd_int) rfl ?_)
  exact sds_one (sd_ret (PL.lst (pl_lst (pad_cons (pd_tup pad_nil (lenOk rfl)) pad_nil) (lenOk rfl))) (by rw [someOf]; rfl))
theorem fn_some_S (T : Tx K mg) (F : Dfn K mg "some_of" s_some_of []) {n : Nat} (hn : n ≤ 2) (Fsome : C_some_of P w K mg base n) : C_some_of P w K mg base (n + 1) := by
  have sc := sc_some_of
  refine F.fn (fun _ _ _ _ _ _ us hl => match us, hl with | [_, _], _ => rfl) fun f fd F => ?_
  refine fn_pure F sc (by rintro ds r ⟨_, _, rfl, _⟩; rfl) (by decide) fun cdv A outer s H ds r hr hR => ?_
  obtain ⟨ts, m, rfl, ht, hm, rfl⟩ := hR
  cases m with
  | zero =>
    refine sds_cons (sd_ifT (v := decide (((0 : Nat) : Int) = 0)) (pt_eq (pd_var 1 rfl) pd_int) rfl ?_)
    exact sds_one (sd_ret (PL.lst (pl_lst (pad_cons (pd_tup pad_nil (lenOk rfl)) pad_nil) (lenOk rfl))) (by rw [someOf]; rfl))
  | succ m =>
  refine sds_cons (sd_ifF (pt_eq (pd_var 1 rfl) pd_int) (decide_eq_false (by omega)) (sds_nil ?_))
  refine sds_cons (sd_asgL 2 (pl_lst pad_nil (lenOk rfl)) (fun l => ?_) sc.nd)
  have gl : ∀ i, ((someOf (ts.drop (i + 1)) m).map (ts.getD i 0 :: ·)).length ≤ 24 ^ m := fun i => by
    rw [List.length_map]
    exact someOf_len m _ (by rw [List.length_drop]; omega)
  have hp : 24 ^ m ≤ 24 ^ 2 := Nat.pow_le_pow_right (by decide) (by omega)
  refine sds_cons (sd_for (fun k ρ => ∃ e1 e2, ρ = [.d (.lst (ts.map nD)), .d (nD (m + 1)), .own l (.lst (((List.range k).flatMap fun i => (someOf (ts.drop (i + 1)) m).map (ts.getD i 0 :: ·)).map tupN)), e1, e2, .no]) (src_enum T.enumerate (pd_var 0 rfl)) ⟨_, _, rfl⟩ (fun k d ρ hd hI => ?_) (fun ρ hI => ?_))
  · obtain ⟨e1, e2, rfl⟩ := hI
    have hk : k < ts.length := by have := (List.getElem?_eq_some_iff.mp hd).1; rw [enD_len, List.length_map] at this; exact this
    have hx : (ts.map nD)[k]? = some (nD (ts.getD k 0)) := by rw [List.getElem?_map, getD_some hk]; rfl
    rw [enD_get hx] at hd
    cases hd
    refine ⟨_, _, (gd_tup2 (gd_name 3 sc.nd) (gd_name 4 sc.nd)), ?_⟩
    have hsl := someOf_len m (ts.drop (k + 1)) (by rw [List.length_drop]; omega)
    have hcall : RSome n ([D.lst (cutD (ts.map nD) (some ((k : Int) + 1)) none), D.int (((m + 1 : Nat) : Int) - 1)] ++ []) (.lst ((someOf (ts.drop (k + 1)) m).map tupN)) := by
      refine ⟨ts.drop (k + 1), m, ?_, by rw [List.length_drop]; omega, by omega, rfl⟩
      rw [show ((k : Nat) : Int) + 1 = ((k + 1 : Nat) : Int) by omega, cut_from, ← List.map_drop, show ((m + 1 : Nat) : Int) - 1 = (m : Nat) by omega]
      rfl
    refine sds_one (sd_augL 2 rfl (PL.lst (pl_lc (own := [("rest", 5)]) (lcr_to (xs := (someOf (ts.drop (k + 1)) m).map tupN) (((someOf (ts.drop (k + 1)) m).map (ts.getD k 0 :: ·)).map tupN) (src_list (pd_call Fsome (hr.mono (by omega)) dfl_nil (pad_cons (PL.lst (pl_cut (pd_var 0 rfl) (pod_some (pd_add (pd_var 3 rfl) pd_int)) pod_none)) (pad_cons (pd_sub (pd_var 1 rfl) pd_int) pad_nil)) hcall)) [5] [5] (by decide) (no1 rfl) ?_ ?_ (fun k' d y hd hy => ?_)) sc.nd rfl)) rfl ?_ ⟨E.d (D.int (k : Int)), E.d (nD (ts.getD k 0)), ?_⟩ sc.nd)
    · simp
    · rw [List.length_map]; omega
    · rw [List.getElem?_map] at hd
      rw [List.getElem?_map, List.getElem?_map] at hy
      cases hq : (someOf (ts.drop (k + 1)) m)[k']? with
      | none => rw [hq] at hd; cases hd
      | some q =>
        rw [hq] at hd hy
        cases hd
        cases hy
        refine ⟨_, fun _ _ _ _ _ => (gd_name 5 sc.nd), fun _ _ _ _ _ => PD.is (pd_tup (pad_cons (pd_var 4 rfl) (pad_starT (pd_var 5 rfl) pad_nil)) ?_) ?_, rfl⟩
        · have := (someOf_mem m _ q (List.mem_of_getElem? hq)).1
          refine Nat.le_trans (m := 100000) ?_ (by decide)
          simp only [List.length_cons, List.length_append, List.length_map, List.length_nil]
          omega
        · rw [List.append_nil]; rfl
    · rw [List.length_map, List.length_map]
      have h1 := flat_len (fun i => (someOf (ts.drop (i + 1)) m).map (ts.getD i 0 :: ·)) (24 ^ m) k fun i _ => gl i
      have h2 := gl k
      have h3 : k * 24 ^ m ≤ 24 * 24 ^ 2 := Nat.mul_le_mul (by omega) hp
      omega
    · rw [range_flat_succ, List.map_append]; rfl
  · obtain ⟨e1, e2, rfl⟩ := hI
    refine sds_one (sd_ret (pd_frz 2 rfl) ?_)
    rw [enD_len, List.length_map, someOf]; rfl
/-! ### locked, check_number, holds -/
def lockX (x : Rw) (more : List Nat) : Rw := { x with lk := normN (x.lk ++ more) }
theorem lock_ok {x : Rw} {more : List Nat} (h : RowOk x) (hm : ∀ k ∈ more, 1 ≤ k ∧ k < x.ar.length) : RowOk (lockX x more) := ⟨h.pos, h.most, h.ar, h.len, h.nn, normN_sorted _, fun l hl => by
  have : l ∈ x.lk ++ more := mem_normN.mp hl
  rcases List.mem_append.mp this with q | q
  · exact h.lk l q
  · exact hm l q⟩
theorem pad_starS {X : Cx} {ρ ρ1 ρ2 : List E} {e : Expr} {es : List Expr} {p : Pos} {d : D} {xs ds : List D} (ha : PD X ρ e ρ1 d) (h : seqD d = some xs) (hr : PAD X ρ1 es ρ2 ds) (hs : starEach (.Starred e p :: es) X.env = (true, eval e X.env) :: starEach es X.env := by rfl) : PAD X ρ (.Starred e p :: es) ρ2 (xs ++ ds) := by
  cases d with
  | tup zs => cases h; exact pad_starT ha hr hs
  | lst zs => cases h; exact pad_starL ha hr hs
  | _ => cases h
def RLocked (K : PySem.W.Frag) (ds : List D) (r : D) : Prop := ∃ (x : Rw) (more : List Nat) (d : D), ds = [rowD K x, d] ∧ seqD d = some (more.map nD) ∧ RowOk x ∧ (∀ q ∈ x.vo, Sm q) ∧ more.length ≤ 24 ∧ (∀ k ∈ more, 1 ≤ k ∧ k < x.ar.length) ∧ r = rowD K (lockX x more)
abbrev C_locked (P : Program) (w : World) (K : PySem.W.Frag) (mg : Str → Option Value) (base : Heap) : Prop := Fn P w K mg base "locked" ["row", "more"] 6 (SpP ⟨P, w, K⟩ (RLocked K)) []
theorem sc_locked : FnScope ["row", "more"] ["row", "more"] (defScope s_locked) := ⟨rfl, rfl, rfl, by decide +kernel, rfl, by decide +kernel, by decide +kernel⟩
theorem fn_locked (T : Tx K mg) (F : Dfn K mg "locked" s_locked []) (FRow : C_Row3 P w K mg base) : C_locked P w K mg base := by
  have sc := sc_locked
  refine F.fn (fun _ _ _ _ _ _ us hl => match us, hl with | [_, _], _ => rfl) fun f fd F => ?_
  refine fn_pure F sc (by rintro ds r ⟨_, _, _, rfl, _⟩; rfl) (by decide) fun cdv A outer s H ds r hr hR => ?_
  obtain ⟨x, more, d, rfl, hd, hx, hs, hl, hm, rfl⟩ := hR
  have h24 := sorted_len hx.srt fun l hl => (hx.lk l hl).2
  have hmost := hx.most
  refine sds_one (sd_ret (pd_make FRow (hr.mono (by decide)) dfl_nil (pad_cons (pd_fld (pd_var 0 rfl) T.clRow T.noRow_areas rfl) (pad_cons (pd_fld (pd_var 0 rfl) T.clRow T.noRow_volumes rfl) (pad_cons (PL.lst (pl_lst (pad_starT (pd_fld (pd_var 0 rfl) T.clRow T.noRow_locks rfl) (pad_starS (pd_var 1 rfl) hd pad_nil)) ?_)) pad_nil))) (fun dx => ⟨dx, x.ar, _, x.vo, _, x.lk ++ more, rfl, rfl, hx.areas, partDs_qd hs, by rw [List.length_map, hx.len], hx.nn, ?_, ?_, ?_, rfl, rfl⟩)) rfl)
  · refine Nat.le_trans (m := 100000) ?_ (by decide)
    simp only [List.length_append, List.length_map, List.length_nil]
    omega
  · show some _ = some _
    rw [List.append_nil, List.map_append]
  · rw [List.length_append]; omega
  · intro l hl
    rcases List.mem_append.mp hl with q | q
    · exact hx.lk l q
    · exact hm l q
abbrev C_check_number (P : Program) (w : World) (K : PySem.W.Frag) (mg : Str → Option Value) (base : Heap) : Prop := Fn P w K mg base "check_number" ["number"] 4 (SpP ⟨P, w, K⟩ RAsPart) []
theorem sc_check_number : FnScope ["number"] ["number"] (defScope s_check_number) := ⟨rfl, rfl, rfl, by decide +kernel, rfl, by decide +kernel, by decide +kernel⟩
theorem fn_check_number (T : Tx K mg) (F : Dfn K mg "check_number" s_check_number []) (Fis_part : C_is_part P w K mg base) (Fas_part : C_as_part P w K mg base) : C_check_number P w K mg base := by
  have sc := sc_check_number
  refine F.fn (fun _ _ _ _ _ _ us hl => match us, hl with | [_], _ => rfl) fun f fd F => ?_
  refine fn_pure F sc (by rintro ds r ⟨_, _, rfl, _⟩; rfl) (by decide) fun cdv A outer s H ds r hr hR => ?_
  obtain ⟨d, q, rfl, hd, rfl⟩ := hR
  refine sds_cons (sd_ifF (v := !true) (pt_not (PD.t (pd_call Fis_part (hr.mono (by decide)) dfl_nil (pad_cons (pd_var 0 rfl) pad_nil) ⟨_, q, rfl, hd, rfl⟩))) rfl (sds_nil ?_))
  exact sds_one (sd_ret (pd_call Fas_part (hr.mono (by decide)) dfl_nil (pad_cons (pd_var 0 rfl) pad_nil) ⟨_, q, rfl, hd, rfl⟩) rfl)
def topV (x : Rw) (p : Nat) (more : List Nat) : Rat := edgeV (lockX x more) p true
def holdsB (x : Rw) (p : Nat) (m : Rat) (more : List Nat) : Bool := !decide (m < topV x p more)
theorem top_sm {x : Rw} {p : Nat} {more : List Nat} (hx : RowOk x) (hs : RowSz x) (hp : p ≤ x.ar.length) (hm : ∀ k ∈ more, 1 ≤ k ∧ k < x.ar.length) : Sm (topV x p more) := by
  have h1 := lock_ok hx hm
  obtain ⟨_, _, e3, e4, _⟩ := edge_spec (p := p) true h1 hp
  have := (line_ok (x := lockX x more) hs h1 (p := p) e3 e4).line
  exact this.mono (by decide) (by decide)
def RHolds (K : PySem.W.Frag) (ds : List D) (r : D) : Prop := ∃ (x : Rw) (p : Nat) (more : List Nat) (m : Rat), ds = [rowD K x, nD p, tupN more, qd m] ∧ RowOk x ∧ RowSz x ∧ p ≤ x.ar.length ∧ more.length ≤ 24 ∧ (∀ k ∈ more, 1 ≤ k ∧ k < x.ar.length) ∧ Sm m ∧ r = .bl (holdsB x p m more)
abbrev C_holds (P : Program) (w : World) (K : PySem.W.Frag) (mg : Str → Option Value) (base : Heap) : Prop := Fn P w K mg base "holds" ["row", "place", "more", "number"] 9 (SpP ⟨P, w, K⟩ (RHolds K)) []
theorem sc_holds : FnScope ["row", "place", "more", "number"] ["row", "place", "more", "number"] (defScope s_holds) := ⟨rfl, rfl, rfl, by decide +kernel, rfl, by decide +kernel, by decide +kernel⟩
theorem fn_holds (T : Tx K mg) (F : Dfn K mg "holds" s_holds []) (Flocked : C_locked P w K mg base) (Fhighest : C_highest P w K mg base) (Fis_less : C_is_less P w K mg base) : C_holds P w K mg base := by
  have sc := sc_holds
  refine F.fn (fun _ _ _ _ _ _ us hl => match us, hl with | [_, _, _, _], _ => rfl) fun f fd F => ?_
  refine fn_pure F sc (by rintro ds r ⟨_, _, _, _, rfl, _⟩; rfl) (by decide) fun cdv A outer s H ds r hr hR => ?_
  obtain ⟨x, p, more, m, rfl, hx, hs, hp, hl, hm, hq, rfl⟩ := hR
  exact sds_one (sd_ret (pd_not (p := decide (m < topV x p more)) (pd_call Fis_less (hr.mono (by decide)) dfl_nil (pad_cons (pd_var 3 rfl) (pad_cons (pd_fld (d := qd (topV x p more)) (pd_call (r := edgeD (cA K "High") (lockX x more) p true) Fhighest (hr.mono (by decide)) dfl_nil (pad_cons (pd_call (r := rowD K (lockX x more)) Flocked (hr.mono (by decide)) dfl_nil (pad_cons (pd_var 0 rfl) (pad_cons (pd_var 2 rfl) pad_nil)) ⟨x, more, _, rfl, rfl, hx, hs.q, hl, hm, rfl⟩) (pad_cons (pd_var 1 rfl) pad_nil)) ⟨lockX x more, p, rfl, lock_ok hx hm, hs, hp, rfl⟩) T.clHigh T.noHigh_number rfl) pad_nil)) ⟨m, _, rfl, hq, top_sm hx hs hp hm, rfl⟩)) rfl)
end
end WL
set_option Elab.async false
set_option linter.all false
set_option maxRecDepth 100000
set_option maxHeartbeats 4000000
namespace WL
open PySem PySem.Spec PyProof.Rows L2
/-! ### the keys that are choices -/
def hT (l : List Nat) : Int := reduceHash (Builtin.Tuple.tupleHashOf (l.map fun c : Nat => hashInt (c : Int)))
theorem nk_tupN (l : List Nat) : nk (tupN l) = .tup (l.map fun c : Nat => NestedKey.num (c : Int)) := by
  unfold tupN
  rw [nk, nks_map, List.map_map]
  congr 1
theorem hashes_num (w : World) : ∀ l : List Nat, NestedKey.hashes w (l.map fun c : Nat => NestedKey.num (c : Int)) = l.map fun c : Nat => hashInt (c : Int)
  | [] => by rw [List.map_nil, NestedKey.hashes]; rfl
  | c :: l => by rw [List.map_cons, NestedKey.hashes, hashes_num w l, NestedKey.hash]; rfl
theorem hash_tupN (w : World) (l : List Nat) : (nk (tupN l)).hash w = hT l := by
  rw [nk_tupN, NestedKey.hash, hashes_num]; rfl
theorem nk_tupN_inj {l l' : List Nat} (h : nk (tupN l) = nk (tupN l')) : l = l' := by
  rw [nk_tupN, nk_tupN] at h
  have h := NestedKey.tup.inj h
  have := congrArg (fun ks => ks.map fun k => match k with | NestedKey.num i => i.toNat | _ => 0) h
  simpa [List.map_map, Function.comp_def] using this
def allowedK : List (List Nat) := [] :: (List.range 24).map fun c => [c]
theorem hT_inj : ∀ a ∈ allowedK, ∀ b ∈ allowedK, hT a = hT b → a = b := by decide +kernel
theorem key_ok (l : List Nat) : keyB (tupN l) = true := by
  unfold keyB
  have h1 : ∀ l : List Nat, kOfs (l.map nD) = true := fun l => by
    induction l with
    | nil => rfl
    | cons c l ih => rw [List.map_cons, kOfs, ih]; rfl
  have h2 : ∀ l : List Nat, NestedKey.depthAll (l.map fun c : Nat => NestedKey.num (c : Int)) = 0 := fun l => by
    induction l with
    | nil => rfl
    | cons c l ih => rw [List.map_cons, NestedKey.depthAll, ih, NestedKey.depth]; rfl
  rw [nk_tupN, NestedKey.depth, h2]
  unfold tupN
  rw [kOf, h1]
  rfl
theorem nodup_map_on {α β : Type} {f : α → β} {xs : List α} (h : xs.Nodup) (hf : ∀ a ∈ xs, ∀ b ∈ xs, f a = f b → a = b) : (xs.map f).Nodup := by
  rw [List.Nodup, List.pairwise_map]
  exact List.Pairwise.imp_of_mem (fun {a b} ha hb hne e => hne (hf a ha b hb e)) h
def fewerThan (ch : List Nat) (m : Nat) : List (List Nat) := (List.range m).flatMap (someOf ch)
theorem some1 (ch : List Nat) : someOf ch 1 = ch.map fun c => [c] := by
  rw [someOf]
  have h : ∀ n, n ≤ ch.length → ((List.range n).flatMap fun i => (someOf (ch.drop (i + 1)) 0).map (ch.getD i 0 :: ·)) = (ch.take n).map fun c => [c] := fun n => by
    induction n with
    | zero => intro _; simp
    | succ n ih =>
      intro hn
      rw [range_flat_succ, ih (by omega), List.take_add_one, getD_some (d := 0) (show n < ch.length by omega), List.map_append, someOf]
      rfl
  rw [h ch.length (Nat.le_refl _), List.take_length]
theorem fewer_nodup {ch : List Nat} (h : ch.Nodup) {m : Nat} (hm : m ≤ 2) : (fewerThan ch m).Nodup := by
  unfold fewerThan
  match m, hm with
  | 0, _ => exact List.nodup_nil
  | 1, _ =>
    have : (List.range 1).flatMap (someOf ch) = [[]] := by rw [range_flat_succ, someOf]; rfl
    rw [this]; simp
  | 2, _ =>
    have : (List.range 2).flatMap (someOf ch) = [] :: ch.map fun c => [c] := by rw [range_flat_succ, range_flat_succ, someOf, some1]; rfl
    rw [this]
    refine List.nodup_cons.mpr ⟨by simp, nodup_map_on h fun a _ b _ e => by simpa using e⟩
theorem fewer_mem {ch : List Nat} {m : Nat} (hm : m ≤ 2) {l : List Nat} (h : l ∈ fewerThan ch m) : l.length ≤ 1 ∧ ∀ y ∈ l, y ∈ ch := by
  unfold fewerThan at h
  obtain ⟨i, hi, h⟩ := List.mem_flatMap.mp h
  have := List.mem_range.mp hi
  obtain ⟨h1, h2⟩ := someOf_mem i ch l h
  exact ⟨by omega, h2⟩
theorem fewer_hash {ch : List Nat} (h : ch.Nodup) (h24 : ∀ c ∈ ch, c < 24) {m : Nat} (hm : m ≤ 2) (w : World) : ((((fewerThan ch m).map tupN).map nk).map fun n => n.hash w).Nodup := by
  rw [List.map_map, List.map_map]
  refine nodup_map_on (fewer_nodup h hm) fun a ha b hb e => ?_
  have e : hT a = hT b := by rw [← hash_tupN w a, ← hash_tupN w b]; exact e
  have al : ∀ l ∈ fewerThan ch m, l ∈ allowedK := fun l hl => by
    obtain ⟨h1, h2⟩ := fewer_mem hm hl
    match l, h1, h2 with
    | [], _, _ => simp [allowedK]
    | [c], _, h2 =>
      have := h24 c (h2 c (by simp))
      simp [allowedK, this]
  exact hT_inj a (al a ha) b (al b hb) e
theorem fewer_nk {ch : List Nat} (h : ch.Nodup) {m : Nat} (hm : m ≤ 2) : (((fewerThan ch m).map tupN).map nk).Nodup := by
  rw [List.map_map]
  exact nodup_map_on (fewer_nodup h hm) fun a _ b _ e => nk_tupN_inj e
theorem fewer_len {ch : List Nat} {m : Nat} (hm : m ≤ 2) (hc : ch.length ≤ 24) : (fewerThan ch m).length ≤ 2 * 24 := by
  have := flat_len (someOf ch) 24 m fun i hi => by
    refine Nat.le_trans (someOf_len i ch hc) ?_
    have : i = 0 ∨ i = 1 := by omega
    rcases this with rfl | rfl <;> decide
  exact Nat.le_trans this (Nat.mul_le_mul_right 24 hm)
theorem DcR.is {X : Cx} {ρ ρ' : List E} {kx vx tg iter : Expr} {scope : Scope} {vs : List Nat} {ks ks' ds ds' : List D} (h : DcR X ρ kx vx tg iter scope vs ρ' ks ds) (e : ks = ks') (e2 : ds = ds') : DcR X ρ kx vx tg iter scope vs ρ' ks' ds' := by subst e; subst e2; exact h
section
variable {P : Program} {w : World} {K : PySem.W.Frag} {mg : Str → Option Value} {base : Heap}
def RGuardI (C : Addr) (o : O) (ds : List D) (o' : O) (r : D) : Prop := ∃ dx ls ks vs, o = .ins C dx [] [] ∧ ds = [.tup ls, .dic ks vs] ∧ ks.all keyB = true ∧ (∀ w : World, ((ks.map nk).map fun n => n.hash w).Nodup) ∧ o' = .ins C dx ["locks", "against"] [.lst ls, .dic ks vs] ∧ r = .non
abbrev C_Guard (P : Program) (w : World) (K : PySem.W.Frag) (mg : Str → Option Value) (base : Heap) : Prop := Mc P w K mg base "Guard" (cA K "Guard") ["self", "locks", "against"] 1 (SpO ⟨P, w, K⟩ (RGuardI (cA K "Guard"))) []
theorem sc_Guard___init__ : FnScope ["self", "locks", "against"] ["self", "locks", "against"] (defScope s_Guard___init__) := ⟨rfl, rfl, rfl, by decide +kernel, rfl, by decide +kernel, by decide +kernel⟩
theorem mc_Guard (T : Tx K mg) (F : Cdf K mg "Guard" "Guard.__init__" s_Guard___init__ []) : C_Guard P w K mg base := by
  have sc := sc_Guard___init__
  refine F.mc (fun _ _ _ _ _ _ us hl => match us, hl with | [_, _, _], _ => rfl) fun f fd F => ?_
  refine fn_own F sc (by rintro o ds o' r ⟨_, _, _, _, _, rfl, _⟩; rfl) (by decide) fun cdv A outer s H l o ds o' r hr hR => ?_
  obtain ⟨dx, ls, ks, vs, rfl, rfl, ok, hh, rfl, rfl⟩ := hR
  refine sds_cons (sd_fld 0 rfl (PL.lst (pl_list T.list (pd_var 1 rfl) rfl)) rfl (by decide) (by decide) T.clGuard T.noGuard_locks ?_)
  exact sds_one (sd_fld 0 rfl (PL.fz (pl_dicC (ks := ks) (ds := vs) hr.units T.dict (pd_var 2 rfl) ok hh)) rfl (by decide) (by decide) T.clGuard T.noGuard_against ⟨rfl, rfl⟩)
/-! ### check_choices, fewer_than -/
structure ChOk (x : Rw) (ch : List Nat) : Prop where
  srt : ch.Pairwise (· < ·)
  w : ∀ k ∈ ch, k ∈ weirsOf x
theorem ChOk.lt {x : Rw} {ch : List Nat} (h : ChOk x ch) : ∀ k ∈ ch, 1 ≤ k ∧ k < x.ar.length := fun k hk => by
  obtain ⟨h1, h2, _⟩ := mem_weirs.mp (h.w k hk)
  exact ⟨h1, h2⟩
theorem ChOk.len {x : Rw} {ch : List Nat} (h : ChOk x ch) : ch.length ≤ x.ar.length := sorted_len h.srt fun k hk => (h.lt k hk).2
theorem ChOk.nd {x : Rw} {ch : List Nat} (h : ChOk x ch) : ch.Nodup := h.srt.imp fun {a b} q => Nat.ne_of_lt q
def RCheckChoices (K : PySem.W.Frag) (ds : List D) (r : D) : Prop := ∃ (x : Rw) (ch : List Nat), ds = [rowD K x, .lst (ch.map nD)] ∧ ChOk x ch ∧ r = .non
abbrev C_check_choices (P : Program) (w : World) (K : PySem.W.Frag) (mg : Str → Option Value) (base : Heap) : Prop := Fn P w K mg base "check_choices" ["row", "choices"] 2 (SpP ⟨P, w, K⟩ (RCheckChoices K)) []
theorem sc_check_choices : FnScope ["row", "choices", "at", "weir"] ["row", "choices"] (defScope s_check_choices) := ⟨rfl, rfl, rfl, by decide +kernel, rfl, by decide +kernel, by decide +kernel⟩
theorem fn_check_choices (T : Tx K mg) (F : Dfn K mg "check_choices" s_check_choices []) (Fcheck_row : C_check_row P w K mg base) (Fis_whole : C_is_whole P w K mg base) (Min : M_in P w K mg base) : C_check_choices P w K mg base := by
  have sc := sc_check_choices
  refine F.fn (fun _ _ _ _ _ _ us hl => match us, hl with | [_, _], _ => rfl) fun f fd F => ?_
  refine fn_pure F sc (by rintro ds r ⟨_, _, rfl, _⟩; rfl) (by decide) fun cdv A outer s H ds r hr hR => ?_
  obtain ⟨x, ch, rfl, hc, rfl⟩ := hR
  refine sds_cons (sd_expr (pd_call (r := .non) Fcheck_row (hr.mono (by decide)) dfl_nil (pad_cons (pd_var 0 rfl) pad_nil) ⟨x, rfl, rfl⟩) ?_)
  refine sds_cons (sd_ifF (v := !true) (pt_not (PD.t (pd_isSeq T.isinstance T.list T.tuple (pd_var 1 rfl) rfl))) rfl (sds_nil ?_))
  refine sds_one (sd_for (fun k ρ => ∃ e1 e2, ρ = [.d (rowD K x), .d (.lst (ch.map nD)), e1, e2]) (src_enum T.enumerate (pd_var 1 rfl)) ⟨_, _, rfl⟩ (fun k d ρ hd hI => ?_) (fun ρ hI => rfl))
  obtain ⟨e1, e2, rfl⟩ := hI
  have hk : k < ch.length := by have := (List.getElem?_eq_some_iff.mp hd).1; rw [enD_len, List.length_map] at this; exact this
  have hx : (ch.map nD)[k]? = some (nD ch[k]) := by rw [List.getElem?_map, List.getElem?_eq_getElem hk]; rfl
  rw [enD_get hx] at hd
  cases hd
  refine ⟨_, _, (gd_tup2 (gd_name 2 sc.nd) (gd_name 3 sc.nd)), ?_⟩
  have hw : RRowIn K [rowD K x, nD ch[k]] (.bl true) := ⟨x, ch[k], rfl, hc.w _ (List.getElem_mem hk), rfl⟩
  cases k with
  | zero =>
    refine sds_one (sd_ifF (v := !true || !true || (false && false)) (pt_or3 (pt_not (PD.t (pd_call Fis_whole (hr.mono (by decide)) dfl_nil (pad_cons (pd_var 3 rfl) pad_nil) isWhole_int))) (fun _ => (pt_notInC (v := true) Min (hr.mono (by decide)) (pd_var 3 rfl) (pd_var 0 rfl) hw)) (fun _ _ => (pt_and2 (p := false) (PTD.is (pt_gt (pd_var 2 rfl) pd_int) rfl) (fun z => absurd z Bool.false_ne_true)))) rfl (sds_nil ⟨_, _, rfl⟩))
  | succ k =>
    have hk' : k < ch.length := by omega
    have hlt : ch[k] < ch[k + 1] := List.pairwise_iff_getElem.mp hc.srt k (k + 1) hk' hk (by omega)
    have g : atI (ch.map nD) (((k + 1 : Nat) : Int) - 1) = some (nD ch[k]) := by
      rw [show ((k + 1 : Nat) : Int) - 1 = (k : Nat) by omega]
      exact atI_map (atI_n (List.getElem?_eq_getElem hk'))
    refine sds_one (sd_ifF (v := !true || !true || (true && false)) (pt_or3 (pt_not (PD.t (pd_call Fis_whole (hr.mono (by decide)) dfl_nil (pad_cons (pd_var 3 rfl) pad_nil) isWhole_int))) (fun _ => (pt_notInC (v := true) Min (hr.mono (by decide)) (pd_var 3 rfl) (pd_var 0 rfl) hw)) (fun _ _ => (pt_and2 (p := true) (PTD.is (pt_gt (pd_var 2 rfl) pd_int) (decide_eq_true (by omega))) (fun _ => PTD.is (pt_le (pd_var 3 rfl) (pd_at (d := nD ch[k]) (pd_var 1 rfl) (pd_sub (pd_var 2 rfl) pd_int) (atD_lst g))) (decide_eq_false (by omega)))))) rfl (sds_nil ⟨_, _, rfl⟩))
def RFewer (ds : List D) (r : D) : Prop := ∃ (ch : List Nat) (m : Nat), ds = [.lst (ch.map nD), nD m] ∧ ch.length ≤ 24 ∧ m ≤ 2 ∧ r = .lst ((fewerThan ch m).map tupN)
abbrev C_fewer_than (P : Program) (w : World) (K : PySem.W.Frag) (mg : Str → Option Value) (base : Heap) : Prop := Fn P w K mg base "fewer_than" ["choices", "many"] 4 (SpP ⟨P, w, K⟩ RFewer) []
theorem sc_fewer_than : FnScope ["choices", "many", "found", "count"] ["choices", "many"] (defScope s_fewer_than) := ⟨rfl, rfl, rfl, by decide +kernel, rfl, by decide +kernel, by decide +kernel⟩
theorem fn_fewer_than (T : Tx K mg) (F : Dfn K mg "fewer_than" s_fewer_than []) (Fsome : C_some_of P w K mg base 2) : C_fewer_than P w K mg base := by
  have sc := sc_fewer_than
  refine F.fn (fun _ _ _ _ _ _ us hl => match us, hl with | [_, _], _ => rfl) fun f fd F => ?_
  refine fn_pure F sc (by rintro ds r ⟨_, _, rfl, _⟩; rfl) (by decide) fun cdv A outer s H ds r hr hR => ?_
  obtain ⟨ch, m, rfl, hc, hm, rfl⟩ := hR
  refine sds_cons (sd_asgL 2 (pl_lst pad_nil (lenOk rfl)) (fun l => ?_) sc.nd)
  refine sds_cons (sd_for (fun k ρ => ∃ e, ρ = [.d (.lst (ch.map nD)), .d (nD m), .own l (.lst ((fewerThan ch k).map tupN)), e]) (src_range1 T.range (pd_var 1 rfl) (by omega)) ⟨_, rfl⟩ (fun k d ρ hd hI => ?_) (fun ρ hI => ?_))
  · obtain ⟨e, rfl⟩ := hI
    have hk : k < m := by have := (List.getElem?_eq_some_iff.mp hd).1; rw [rgFrom_len] at this; omega
    rw [rgFrom_get (by omega)] at hd
    cases hd
    rw [Int.zero_add]
    refine ⟨_, _, (gd_name 3 sc.nd), ?_⟩
    refine sds_one (sd_augL 2 rfl (pd_call (r := .lst ((someOf ch k).map tupN)) Fsome (hr.mono (by decide)) dfl_nil (pad_cons (PL.lst (pl_list T.list (pd_var 0 rfl) rfl)) (pad_cons (pd_var 3 rfl) pad_nil)) ⟨ch, k, rfl, hc, by omega, rfl⟩) rfl ?_ ⟨E.d (nD k), ?_⟩ sc.nd)
    · rw [List.length_map, List.length_map]
      have h1 := fewer_len (ch := ch) (m := k) (by omega) hc
      have h2 := someOf_len k ch hc
      have h3 : 24 ^ k ≤ 24 ^ 2 := Nat.pow_le_pow_right (by decide) (by omega)
      omega
    · unfold fewerThan
      rw [range_flat_succ, List.map_append]; rfl
  · obtain ⟨e, rfl⟩ := hI
    refine sds_one (sd_ret (pd_frz 2 rfl) ?_)
    rw [rgFrom_len]; rfl
/-! ### guards -/
def candsOf (ch : List Nat) : List (List Nat) := (List.range (min 3 (ch.length + 1))).flatMap (someOf ch)
def guardOf (x : Rw) (ch : List Nat) (p : Nat) (m : Rat) : Option (List Nat) := (candsOf ch).find? (holdsB x p m)
def guardD (K : PySem.W.Frag) (x : Rw) (ch : List Nat) (p : Nat) (more : List Nat) : D := .ins (cA K "Guard") ["locks", "against"] [.lst (more.map nD), .dic ((fewerThan ch more.length).map tupN) ((fewerThan ch more.length).map fun f => qd (topV x p f))]
def guardR (K : PySem.W.Frag) (x : Rw) (ch : List Nat) (p : Nat) (m : Rat) : D := match guardOf x ch p m with | none => .non | some more => guardD K x ch p more
def RGuards (K : PySem.W.Frag) (ds : List D) (r : D) : Prop := ∃ (x : Rw) (ch : List Nat) (p : Nat) (m : Rat), ds = [rowD K x, .lst (ch.map nD), nD p, qd m] ∧ RowOk x ∧ RowSz x ∧ ChOk x ch ∧ p ≤ x.ar.length ∧ Sm m ∧ r = guardR K x ch p m
abbrev C_guards (P : Program) (w : World) (K : PySem.W.Frag) (mg : Str → Option Value) (base : Heap) : Prop := Fn P w K mg base "guards" ["row", "choices", "place", "number"] 10 (SpP ⟨P, w, K⟩ (RGuards K)) []
theorem find_hit {α : Type} {f : α → Bool} : ∀ (as : List α) (b : α) (cs : List α), (∀ a ∈ as, f a = false) → f b = true → (as ++ b :: cs).find? f = some b
  | [], b, cs, _, h => by simp [h]
  | a :: as, b, cs, h1, h2 => by
    rw [List.cons_append, List.find?_cons, h1 a (by simp)]
    exact find_hit as b cs (fun x hx => h1 x (by simp [hx])) h2
theorem range_split {β : Type} (g : Nat → List β) {k n : Nat} (h : k < n) : ∃ rest, (List.range n).flatMap g = (List.range k).flatMap g ++ (g k ++ rest) := by
  obtain ⟨d, rfl⟩ : ∃ d, n = k + 1 + d := ⟨n - (k + 1), by omega⟩
  refine ⟨((List.range d).map fun i => k + 1 + i).flatMap g, ?_⟩
  rw [List.range_add, List.flatMap_append, range_flat_succ, List.append_assoc]
theorem tupN_map_get {L : List (List Nat)} {k : Nat} {d : D} (h : (L.map tupN)[k]? = some d) : ∃ l, L[k]? = some l ∧ d = tupN l := by
  rw [List.getElem?_map] at h
  obtain ⟨l, h1, h2⟩ := Option.map_eq_some_iff.mp h
  exact ⟨l, h1, h2.symm⟩
theorem sc_guards : FnScope ["row", "choices", "place", "number", "most", "count", "more", "against", "fewer"] ["row", "choices", "place", "number"] (defScope s_guards) := ⟨rfl, rfl, rfl, by decide +kernel, rfl, by decide +kernel, by decide +kernel⟩
theorem fn_guards (T : Tx K mg) (F : Dfn K mg "guards" s_guards []) (Fcheck_choices : C_check_choices P w K mg base) (Fcheck_place : C_check_place P w K mg base) (Fcheck_number : C_check_number P w K mg base) (Fsome : C_some_of P w K mg base 2) (Fholds : C_holds P w K mg base) (Ffewer : C_fewer_than P w K mg base) (Flocked : C_locked P w K mg base) (Fhighest : C_highest P w K mg base) (FGuard : C_Guard P w K mg base) : C_guards P w K mg base := by
  have sc := sc_guards
  refine F.fn (fun _ _ _ _ _ _ us hl => match us, hl with | [_, _, _, _], _ => rfl) fun f fd F => ?_
  refine fn_pure F sc (by rintro ds r ⟨_, _, _, _, rfl, _⟩; rfl) (by decide) fun cdv A outer s H ds r hr hR => ?_
  obtain ⟨x, ch, p, m, rfl, hx, hs, hc, hp, hm, rfl⟩ := hR
  have h24 := hx.most
  have hcl := hc.len
  have hclt := hc.lt
  refine sds_cons (sd_expr (pd_call (r := .non) Fcheck_choices (hr.mono (by decide)) dfl_nil (pad_cons (pd_var 0 rfl) (pad_cons (pd_var 1 rfl) pad_nil)) ⟨x, ch, rfl, hc, rfl⟩) ?_)
  refine sds_cons (sd_expr (pd_call (r := .non) Fcheck_place (hr.mono (by decide)) dfl_nil (pad_cons (pd_var 0 rfl) (pad_cons (pd_var 2 rfl) pad_nil)) ⟨x, p, rfl, hp, h24, rfl⟩) ?_)
  refine sds_cons (sd_asg (d := qd m) 4 (pd_call Fcheck_number (hr.mono (by decide)) dfl_nil (pad_cons (pd_var 3 rfl) pad_nil) ⟨_, m, rfl, partD_qd (sm_den hm), rfl⟩) ?_ sc.nd)
  have emin : (if (((ch.map nD).length : Nat) : Int) + 1 < 3 then (((ch.map nD).length : Nat) : Int) + 1 else 3) = ((min 3 (ch.length + 1) : Nat) : Int) := by
    rw [List.length_map]
    split <;> omega
  refine sds_cons (sd_for (fun k ρ => (∃ e1 e2, ρ = [.d (rowD K x), .d (.lst (ch.map nD)), .d (nD p), .d (qd m), .d (qd m), e1, e2, .no, .no]) ∧ ∀ l ∈ (List.range k).flatMap (someOf ch), holdsB x p m l = false) (src_range1 (i := ((min 3 (ch.length + 1) : Nat) : Int)) T.range (PD.is (pd_min2 T.min pd_int (pd_add (pd_len T.len (pd_var 1 rfl) rfl) pd_int)) (by rw [emin])) (by omega)) ⟨⟨_, _, rfl⟩, by simp⟩ (fun k d ρ hd hI => ?_) (fun ρ hI => ?_))
  · obtain ⟨⟨e1, e2, rfl⟩, hno⟩ := hI
    have hk : k < min 3 (ch.length + 1) := by have := (List.getElem?_eq_some_iff.mp hd).1; rw [rgFrom_len] at this; omega
    rw [rgFrom_get (by omega)] at hd
    cases hd
    rw [Int.zero_add]
    refine ⟨_, _, (gd_name 5 sc.nd), ?_⟩
    have hk2 : k ≤ 2 := by omega
    refine sds_one (sd_for (fun j ρ => (∃ e2, ρ = [.d (rowD K x), .d (.lst (ch.map nD)), .d (nD p), .d (qd m), .d (qd m), .d (nD k), e2, .no, .no]) ∧ ∀ l ∈ (someOf ch k).take j, holdsB x p m l = false) (src_list (pd_call (r := .lst ((someOf ch k).map tupN)) Fsome (hr.mono (by decide)) dfl_nil (pad_cons (PL.lst (pl_list T.list (pd_var 1 rfl) rfl)) (pad_cons (pd_var 5 rfl) pad_nil)) ⟨ch, k, rfl, by omega, hk2, rfl⟩)) ⟨⟨_, rfl⟩, by simp⟩ (fun j d ρ hd hI => ?_) (fun ρ hI => ?_))
    · obtain ⟨⟨e2, rfl⟩, hno2⟩ := hI
      obtain ⟨more, hmore, rfl⟩ := tupN_map_get hd
      obtain ⟨ml, mm⟩ := someOf_mem k ch more (List.mem_of_getElem? hmore)
      have hml : ∀ y ∈ more, 1 ≤ y ∧ y < x.ar.length := fun y hy => hclt y (mm y hy)
      refine ⟨_, _, (gd_name 6 sc.nd), ?_⟩
      refine sds_one (sd_if (v := holdsB x p m more) (PD.t (pd_call Fholds (hr.mono (by decide)) dfl_nil (pad_cons (pd_var 0 rfl) (pad_cons (pd_var 2 rfl) (pad_cons (pd_var 6 rfl) (pad_cons (pd_var 4 rfl) pad_nil)))) ⟨x, p, more, m, rfl, hx, hs, hp, by omega, hml, hm, rfl⟩)) (fun hc1 => ?_) (fun hc1 => sds_nil ?_))
      · have fl : ∀ f ∈ fewerThan ch k, ∀ y ∈ f, 1 ≤ y ∧ y < x.ar.length := fun f hf y hy => hclt y ((fewer_mem hk2 hf).2 y hy)
        refine sds_cons (sd_asgDcK (own := [("fewer", 8)]) (ks := (fewerThan ch k).map tupN) (ds := (fewerThan ch k).map fun f => qd (topV x p f)) 7 hr.units (DcR.is (dcr_to (xs := (fewerThan ch k).map tupN) (src_list (pd_call (r := .lst ((fewerThan ch k).map tupN)) Ffewer (hr.mono (by decide)) dfl_nil (pad_cons (pd_var 1 rfl) (pad_cons (pd_var 5 rfl) pad_nil)) ⟨ch, k, rfl, by omega, hk2, rfl⟩)) id (fun d => match d with | .tup zs => qd (topV x p (zs.map fun z => match z with | .int i => i.toNat | _ => 0)) | _ => .non) [8] (by decide) (no1 rfl) ?_ ?_ ?_ ?_) ?_ ?_) (fun l => ?_) sc.nd rfl (swD_true rfl rfl rfl (by decide +kernel)))
        · rw [List.length_map]
          have := fewer_len (ch := ch) hk2 (by omega)
          omega
        · intro d hd
          obtain ⟨f, hf, rfl⟩ := List.mem_map.mp hd
          exact ⟨key_ok f, _, rfl⟩
        · rw [List.map_id]; exact fewer_nk hc.nd hk2
        · intro d hd
          obtain ⟨f, hf, rfl⟩ := List.mem_map.mp hd
          have ef : ((f.map nD).map fun z => match z with | .int i => i.toNat | _ => 0) = f := by
            rw [List.map_map]
            conv => rhs; rw [← List.map_id f]
            apply List.map_congr_left
            intro y _
            rfl
          have fl2 := (fewer_mem hk2 hf).1
          refine ⟨_, fun _ _ _ _ _ => (gd_name 8 sc.nd), fun _ _ _ _ _ => pd_var 8 rfl, fun _ _ _ _ _ => PD.is (pd_fld (d := qd (topV x p f)) (pd_call (r := edgeD (cA K "High") (lockX x f) p true) Fhighest (hr.mono (by decide)) dfl_nil (pad_cons (pd_call (r := rowD K (lockX x f)) Flocked (hr.mono (by decide)) dfl_nil (pad_cons (pd_var 0 rfl) (pad_cons (pd_var 8 rfl) pad_nil)) ⟨x, f, _, rfl, rfl, hx, hs.q, by omega, fl f hf, rfl⟩) (pad_cons (pd_var 2 rfl) pad_nil)) ⟨lockX x f, p, rfl, lock_ok hx (fl f hf), hs, hp, rfl⟩) T.clHigh T.noHigh_number rfl) ?_, rfl⟩
          show qd (topV x p f) = qd (topV x p ((f.map nD).map _))
          rw [ef]
        · rw [List.map_id]
        · rw [List.map_map]
          apply List.map_congr_left
          intro f _
          show qd (topV x p ((f.map nD).map _)) = _
          congr 2
          rw [List.map_map]
          conv => rhs; rw [← List.map_id f]
          apply List.map_congr_left
          intro y _
          rfl
        · refine sds_one (sd_ret (pd_make (ns := ["locks", "against"]) (fs := [.lst (more.map nD), .dic ((fewerThan ch k).map tupN) ((fewerThan ch k).map fun f => qd (topV x p f))]) FGuard (hr.mono (by decide)) dfl_nil (pad_cons (pd_var 6 rfl) (pad_cons (pd_frz 7 rfl) pad_nil)) (fun dx => ⟨dx, _, _, _, rfl, rfl, ?_, fewer_hash hc.nd (fun c hc' => by have := hclt c hc'; omega) hk2, rfl, rfl⟩)) ?_)
          · rw [List.all_eq_true]
            intro d hd
            obtain ⟨f, _, rfl⟩ := List.mem_map.mp hd
            exact key_ok f
          · have hg : guardOf x ch p m = some more := by
              unfold guardOf candsOf
              obtain ⟨rest, e⟩ := range_split (someOf ch) hk
              have hj := (List.getElem?_eq_some_iff.mp hmore).1
              have e2 : someOf ch k = (someOf ch k).take j ++ more :: (someOf ch k).drop (j + 1) := by
                conv => lhs; rw [← List.take_append_drop j (someOf ch k)]
                rw [List.drop_eq_getElem_cons hj, (List.getElem?_eq_some_iff.mp hmore).2]
              rw [e, e2]
              have : (List.range k).flatMap (someOf ch) ++ ((someOf ch k).take j ++ more :: (someOf ch k).drop (j + 1) ++ rest) = ((List.range k).flatMap (someOf ch) ++ (someOf ch k).take j) ++ more :: ((someOf ch k).drop (j + 1) ++ rest) := by simp
              rw [this]
              refine find_hit _ _ _ (fun a ha => ?_) hc1
              rcases List.mem_append.mp ha with q | q
              · exact hno a q
              · exact hno2 a q
            unfold guardR
            rw [hg]
            show _ = guardD K x ch p more
            unfold guardD
            rw [ml]
      · refine ⟨⟨_, rfl⟩, fun l hl => ?_⟩
        rw [List.take_add_one, hmore] at hl
        rcases List.mem_append.mp hl with q | q
        · exact hno2 l q
        · simp at q
          rw [q]; exact hc1
    · obtain ⟨⟨e2, rfl⟩, hno2⟩ := hI
      rw [List.length_map, List.take_length] at hno2
      refine ⟨⟨_, _, rfl⟩, fun l hl => ?_⟩
      rw [range_flat_succ] at hl
      rcases List.mem_append.mp hl with q | q
      · exact hno l q
      · exact hno2 l q
  · obtain ⟨⟨e1, e2, rfl⟩, hno⟩ := hI
    refine sds_one (sd_ret pd_non ?_)
    rw [rgFrom_len] at hno
    have hg : guardOf x ch p m = none := by
      unfold guardOf candsOf
      rw [List.find?_eq_none]
      intro l hl
      rw [hno l (by simpa using hl)]
      exact Bool.false_ne_true
    unfold guardR
    rw [hg]
end
end WL
set_option Elab.async false
set_option linter.all false
set_option maxRecDepth 100000
set_option maxHeartbeats 4000000
namespace WL
open PySem PySem.Spec PyProof.Rows L2
/-- behind the first k turns: the runs, where the next one begins -/
def runSt (n : Nat) (o : List Nat) : Nat → List (Nat × Nat) × Nat
  | 0 => ([], 0)
  | k + 1 => if k + 1 = n ∨ k + 1 ∉ o then ((runSt n o k).1 ++ [((runSt n o k).2, k + 1)], k + 1) else runSt n o k
def runsOf (n : Nat) (o : List Nat) : List (Nat × Nat) := (runSt n o n).1
theorem runSt_spec (n : Nat) (o : List Nat) : ∀ k, (runSt n o k).2 ≤ k ∧ (runSt n o k).1.length ≤ k ∧ ∀ q ∈ (runSt n o k).1, q.1 < q.2 ∧ q.2 ≤ k
  | 0 => by simp [runSt]
  | k + 1 => by
    obtain ⟨h1, h2, h3⟩ := runSt_spec n o k
    rw [runSt]
    split
    · refine ⟨Nat.le_refl _, by simp; omega, fun q hq => ?_⟩
      rcases List.mem_append.mp hq with hq | hq
      · have := h3 q hq; omega
      · rw [List.mem_singleton.mp hq]
        exact ⟨by show (runSt n o k).2 < k + 1; omega, Nat.le_refl _⟩
    · exact ⟨by omega, by omega, fun q hq => by have := h3 q hq; omega⟩
/-- the volumes of one run, evened -/
def runV (x : Rw) (q : Nat × Nat) : List Rat := ((x.ar.take q.2).drop q.1).map fun a => sumQ ((x.vo.take q.2).drop q.1) / ((((x.ar.take q.2).drop q.1).sum : Nat) : Rat) * ((a : Nat) : Rat)
def limitV (x : Rw) (o : List Nat) : List Rat := (runsOf x.ar.length o).flatMap (runV x)
theorem runV_len {x : Rw} {q : Nat × Nat} (h2 : q.2 ≤ x.ar.length) : (runV x q).length = q.2 - q.1 := by
  unfold runV
  rw [List.length_map, List.length_drop, List.length_take]
  omega
theorem run_len (x : Rw) (o : List Nat) : ∀ k, k ≤ x.ar.length → ((runSt x.ar.length o k).1.flatMap (runV x)).length = (runSt x.ar.length o k).2
  | 0, _ => by simp [runSt]
  | k + 1, hk => by
    have ih := run_len x o k (by omega)
    obtain ⟨h1, _, _⟩ := runSt_spec x.ar.length o k
    rw [runSt]
    split
    · show (((runSt x.ar.length o k).1 ++ [((runSt x.ar.length o k).2, k + 1)]).flatMap (runV x)).length = k + 1
      rw [List.flatMap_append, List.length_append, ih]
      simp only [List.flatMap_cons, List.flatMap_nil, List.append_nil]
      rw [runV_len (by show k + 1 ≤ _; omega)]
      show _ + (k + 1 - (runSt x.ar.length o k).2) = _
      omega
    · exact ih
theorem runs_end (n : Nat) (o : List Nat) (h : 1 ≤ n) : (runSt n o n).2 = n := by
  obtain ⟨m, rfl⟩ : ∃ m, n = m + 1 := ⟨n - 1, by omega⟩
  rw [runSt, if_pos (.inl rfl)]
theorem limitV_len {x : Rw} {o : List Nat} (h : RowOk x) : (limitV x o).length = x.ar.length := by
  unfold limitV runsOf
  rw [run_len x o _ (Nat.le_refl _), runs_end _ _ h.pos]
theorem sum_pos {ns : List Nat} (h : ∀ a ∈ ns, 1 ≤ a) (hne : ns ≠ []) : 0 < ns.sum := by
  cases ns with
  | nil => exact absurd rfl hne
  | cons a ns =>
    have := h a (by simp)
    rw [List.sum_cons]; omega
theorem sumQ_cons_aux : ∀ (qs : List Rat) (b : Rat), qs.foldl (fun f x => f + x) b = b + qs.foldl (fun f x => f + x) 0
  | [], b => by show b = b + 0; rw [Rat.add_zero]
  | q :: qs, b => by
    show qs.foldl (fun f x => f + x) (b + q) = b + qs.foldl (fun f x => f + x) (0 + q)
    rw [sumQ_cons_aux qs (b + q), sumQ_cons_aux qs (0 + q), Rat.zero_add, Rat.add_assoc]
theorem sumQ_cons (q : Rat) (qs : List Rat) : sumQ (q :: qs) = q + sumQ qs := by
  show qs.foldl (fun f x => f + x) (0 + q) = _
  rw [sumQ_cons_aux, Rat.zero_add]; rfl
theorem sumQ_nil : sumQ [] = 0 := rfl
theorem sumQ_append : ∀ (xs ys : List Rat), sumQ (xs ++ ys) = sumQ xs + sumQ ys
  | [], ys => by rw [List.nil_append, sumQ_nil, Rat.zero_add]
  | x :: xs, ys => by rw [List.cons_append, sumQ_cons, sumQ_cons, sumQ_append xs ys, Rat.add_assoc]
theorem sumQ_nn : ∀ {qs : List Rat}, (∀ q ∈ qs, 0 ≤ q) → 0 ≤ sumQ qs
  | [], _ => by rw [sumQ_nil]; exact Rat.le_refl
  | q :: qs, h => by
    rw [sumQ_cons]
    exact Rat.add_nonneg (h q (by simp)) (sumQ_nn fun x hx => h x (by simp [hx]))
/-- the numbers of one run -/
structure RunOk (x : Rw) (q : Nat × Nat) : Prop where
  vs : ∀ v ∈ (x.vo.take q.2).drop q.1, Sm v
  ss : SmSums ((x.vo.take q.2).drop q.1)
  t : Sm (sumQ ((x.vo.take q.2).drop q.1))
  pos : 0 < ((x.ar.take q.2).drop q.1).sum
  a : Sm (((((x.ar.take q.2).drop q.1).sum : Nat) : Int) : Rat)
  a0 : (0 : Rat) < (((((x.ar.take q.2).drop q.1).sum : Nat) : Int) : Rat)
  an : ((((((x.ar.take q.2).drop q.1).sum : Nat) : Int) : Rat)).num.natAbs < 2 ^ 4500
  h : Sm (sumQ ((x.vo.take q.2).drop q.1) / (((((x.ar.take q.2).drop q.1).sum : Nat) : Int) : Rat))
  each : ∀ b ∈ (x.ar.take q.2).drop q.1, Sm (((b : Nat) : Int) : Rat) ∧ Sz 2000 700 (sumQ ((x.vo.take q.2).drop q.1) / (((((x.ar.take q.2).drop q.1).sum : Nat) : Int) : Rat) * (((b : Nat) : Int) : Rat)) ∧ 0 ≤ sumQ ((x.vo.take q.2).drop q.1) / (((((x.ar.take q.2).drop q.1).sum : Nat) : Int) : Rat) * (((b : Nat) : Int) : Rat)
theorem run_ok {x : Rw} {q : Nat × Nat} (hx : RowOk x) (hs : RowSz x) (h1 : q.1 < q.2) (h2 : q.2 ≤ x.ar.length) : RunOk x q := by
  have hmost := hx.most
  have sub : ∀ v ∈ (x.vo.take q.2).drop q.1, v ∈ x.vo := fun v hv => List.mem_of_mem_take (List.mem_of_mem_drop hv)
  have suba : ∀ a ∈ (x.ar.take q.2).drop q.1, a ∈ x.ar := fun v hv => List.mem_of_mem_take (List.mem_of_mem_drop hv)
  obtain ⟨Dn, M, d0, d1, m1, hb⟩ := hs
  have hl : ((x.vo.take q.2).drop q.1).length ≤ 24 := by rw [List.length_drop, List.length_take]; omega
  have hm : (M * 24) * Dn < 2 ^ 610 := by
    have a1 : M * 24 < 2 ^ (300 + 5) := mul_lt_pow m1 (by decide)
    exact Nat.lt_of_lt_of_le (mul_lt_pow a1 d1) (Nat.pow_le_pow_right (by decide) (by decide))
  have d4 : Dn < 2 ^ 4400 := Nat.lt_of_lt_of_le d1 (Nat.pow_le_pow_right (by decide) (by decide))
  have m4 : (M * 24) * Dn < 2 ^ 400000 := Nat.lt_of_lt_of_le hm (Nat.pow_le_pow_right (by decide) (by decide))
  have bs := bd_sums (N := 24) d0 d4 (fun v hv => hb v (sub v hv)) hl m4
  have ss : SmSums ((x.vo.take q.2).drop q.1) := fun k => (bs k).sm d0 d4 m4
  have bt := bs ((x.vo.take q.2).drop q.1).length
  rw [List.take_length] at bt
  have st : Sz 700 300 (sumQ ((x.vo.take q.2).drop q.1)) := ⟨Nat.lt_of_le_of_lt bt.num (Nat.lt_of_le_of_lt (Nat.mul_le_mul_left _ (bt.den d0)) (Nat.lt_of_lt_of_le hm (Nat.pow_le_pow_right (by decide) (by decide)))), Nat.lt_of_le_of_lt (bt.den d0) d1⟩
  have hpos : 0 < ((x.ar.take q.2).drop q.1).sum := sum_pos (fun a ha => (hx.ar a (suba a ha)).1) (by
    intro z
    have := congrArg List.length z
    rw [List.length_drop, List.length_take] at this
    simp at this
    omega)
  have hsum : ((x.ar.take q.2).drop q.1).sum ≤ 24000 := by
    have e := sum_take_le (ns := (x.ar.take q.2).drop q.1) (B := 1000) (fun a ha => (hx.ar a (suba a ha)).2) ((x.ar.take q.2).drop q.1).length
    rw [List.take_length] at e
    have : ((x.ar.take q.2).drop q.1).length ≤ 24 := by rw [List.length_drop, List.length_take]; omega
    exact Nat.le_trans e (Nat.mul_le_mul_right 1000 this)
  generalize hA : ((x.ar.take q.2).drop q.1).sum = A at hpos hsum
  have sa : Sz 15 1 (((A : Nat) : Int) : Rat) := sz_int (by omega)
  have a0 : (0 : Rat) < (((A : Nat) : Int) : Rat) := by exact_mod_cast (show (0 : Int) < (A : Nat) by omega)
  have sh := sz_div st sa (Rat.ne_of_gt a0)
  have tn : 0 ≤ sumQ ((x.vo.take q.2).drop q.1) := sumQ_nn fun v hv => hx.nn v (sub v hv)
  refine ⟨fun v hv => (hb v (sub v hv)).sm d0 d4 (Nat.lt_of_le_of_lt (Nat.mul_le_mul_right Dn (Nat.le_mul_of_pos_right M (by decide))) m4), ss, st.mono (by decide) (by decide), by rw [hA]; exact hpos, by rw [hA]; exact sa.mono (by decide) (by decide), by rw [hA]; exact a0, by rw [hA]; exact Nat.lt_of_lt_of_le sa.1 (Nat.pow_le_pow_right (by decide) (by decide)), by rw [hA]; exact sh.mono (by decide) (by decide), fun b hb' => ?_⟩
  have hb2 := (hx.ar b (suba b hb')).2
  have sb : Sz 15 1 (((b : Nat) : Int) : Rat) := sz_int (by omega)
  rw [hA]
  refine ⟨sb.mono (by decide) (by decide), (sz_mul sh sb).mono (by decide) (by decide), Rat.mul_nonneg ?_ (by exact_mod_cast (show (0 : Int) ≤ (b : Nat) by omega))⟩
  rw [Rat.div_def]
  exact Rat.mul_nonneg tn (Rat.le_of_lt (Rat.inv_pos.mpr a0))
section
variable {P : Program} {w : World} {K : PySem.W.Frag} {mg : Str → Option Value} {base : Heap}
def RRuns (K : PySem.W.Frag) (ds : List D) (r : D) : Prop := ∃ (x : Rw) (o : List Nat), ds = [rowD K x, .lst (o.map nD)] ∧ (∀ k ∈ o, k ∈ weirsOf x) ∧ o.length ≤ 15 ∧ x.ar.length ≤ 24 ∧ r = .lst ((runsOf x.ar.length o).map pairD)
abbrev C_runs (P : Program) (w : World) (K : PySem.W.Frag) (mg : Str → Option Value) (base : Heap) : Prop := Fn P w K mg base "runs" ["row", "order"] 3 (SpP ⟨P, w, K⟩ (RRuns K)) []
theorem sc_runs : FnScope ["row", "order", "found", "first", "weir"] ["row", "order"] (defScope s_runs) := ⟨rfl, rfl, rfl, by decide +kernel, rfl, by decide +kernel, by decide +kernel⟩
theorem fn_runs (T : Tx K mg) (F : Dfn K mg "runs" s_runs []) (Fcheck_row : C_check_row P w K mg base) (Fcheck_order : C_check_order P w K mg base) (Mlen : M_len P w K mg base) : C_runs P w K mg base := by
  have sc := sc_runs
  refine F.fn (fun _ _ _ _ _ _ us hl => match us, hl with | [_, _], _ => rfl) fun f fd F => ?_
  refine fn_pure F sc (by rintro ds r ⟨_, _, rfl, _⟩; rfl) (by decide) fun cdv A outer s H ds r hr hR => ?_
  obtain ⟨x, o, rfl, ho, hl, hm, rfl⟩ := hR
  refine sds_cons (sd_expr (pd_call (r := .non) Fcheck_row (hr.mono (by decide)) dfl_nil (pad_cons (pd_var 0 rfl) pad_nil) ⟨x, rfl, rfl⟩) ?_)
  refine sds_cons (sd_expr (pd_call (r := .non) Fcheck_order (hr.mono (by decide)) dfl_nil (pad_cons (pd_var 0 rfl) (pad_cons (pd_var 1 rfl) pad_nil)) ⟨x, o, rfl, ho, hl, rfl⟩) ?_)
  refine sds_cons (sd_parLO 2 3 (pl_lst pad_nil (lenOk rfl)) (fun l => ?_) sc.nd)
  have en : (((x.ar.length : Nat) : Int) + 1 - 1).toNat = x.ar.length := by omega
  refine sds_cons (sd_for (fun k ρ => ∃ e, ρ = [.d (rowD K x), .d (.lst (o.map nD)), .own l (.lst ((runSt x.ar.length o k).1.map pairD)), .d (nD (runSt x.ar.length o k).2), e]) (src_range2 T.range pd_int (pd_add (pd_lenC (i := (x.ar.length : Nat)) Mlen T.len (hr.mono (by decide)) (pd_var 0 rfl) ⟨x, rfl, rfl⟩ (by omega)) pd_int) (by omega)) ⟨_, rfl⟩ (fun k d ρ hd hI => ?_) (fun ρ hI => ?_))
  · obtain ⟨e, rfl⟩ := hI
    have hk : k < x.ar.length := by have := (List.getElem?_eq_some_iff.mp hd).1; rw [rgFrom_len, en] at this; exact this
    rw [rgFrom_get (by rw [en]; exact hk)] at hd
    cases hd
    rw [show (1 : Int) + (k : Int) = ((k + 1 : Nat) : Int) by omega]
    obtain ⟨r1, r2, r3⟩ := runSt_spec x.ar.length o k
    refine ⟨_, _, (gd_name 4 sc.nd), ?_⟩
    have ev : (decide (((k + 1 : Nat) : Int) = (x.ar.length : Nat)) || !decide (((k + 1 : Nat) : Int) ∈ o.map Int.ofNat)) = decide (k + 1 = x.ar.length ∨ k + 1 ∉ o) := by
      have a : (((k + 1 : Nat) : Int) = (x.ar.length : Nat)) ↔ k + 1 = x.ar.length := Int.ofNat_inj
      simp only [a, mem_ofNat]
      by_cases h1 : k + 1 = x.ar.length <;> by_cases h2 : k + 1 ∈ o <;> simp [h1, h2]
    refine sds_one (sd_if (v := decide (k + 1 = x.ar.length ∨ k + 1 ∉ o)) (PTD.is (pt_or2 (pt_eq (pd_var 4 rfl) (pd_lenC (i := (x.ar.length : Nat)) Mlen T.len (hr.mono (by decide)) (pd_var 0 rfl) ⟨x, rfl, rfl⟩ (by omega))) (fun _ => (pt_notInS (is := o.map Int.ofNat) (pd_var 4 rfl) (pd_var 1 rfl) (by rw [← nD_map]; rfl)))) ev) (fun hc => ?_) (fun hc => ?_))
    · refine sds_cons (sd_append 2 rfl (pd_tup (pad_cons (pd_var 3 rfl) (pad_cons (pd_var 4 rfl) pad_nil)) (lenOk rfl)) rfl (by rw [List.length_map]; omega) ?_)
      refine sds_one (sd_asg 3 (pd_var 4 rfl) ⟨E.d (nD (k + 1)), ?_⟩ sc.nd)
      rw [runSt, if_pos (of_decide_eq_true hc), List.map_append]
      rfl
    · refine sds_nil ⟨E.d (nD (k + 1)), ?_⟩
      rw [runSt, if_neg (of_decide_eq_false hc)]
      rfl
  · obtain ⟨e, rfl⟩ := hI
    refine sds_one (sd_ret (pd_frz 2 rfl) ?_)
    rw [rgFrom_len, en]; rfl
def RLimit (K : PySem.W.Frag) (ds : List D) (r : D) : Prop := ∃ (x : Rw) (o : List Nat), ds = [rowD K x, .lst (o.map nD)] ∧ RowOk x ∧ RowSz x ∧ (∀ k ∈ o, k ∈ weirsOf x) ∧ o.length ≤ 15 ∧ r = rowD K { x with vo := limitV x o }
abbrev C_limit (P : Program) (w : World) (K : PySem.W.Frag) (mg : Str → Option Value) (base : Heap) : Prop := Fn P w K mg base "limit" ["row", "order"] 7 (SpP ⟨P, w, K⟩ (RLimit K)) []
theorem run_mem {x : Rw} {o : List Nat} (hx : RowOk x) (hs : RowSz x) : ∀ v ∈ limitV x o, Sz 2000 700 v ∧ 0 ≤ v := by
  intro v hv
  unfold limitV runsOf at hv
  obtain ⟨q, hq, hv⟩ := List.mem_flatMap.mp hv
  obtain ⟨_, _, h3⟩ := runSt_spec x.ar.length o x.ar.length
  obtain ⟨q1, q2⟩ := h3 q hq
  have ok := run_ok hx hs q1 q2
  unfold runV at hv
  obtain ⟨b, hb, rfl⟩ := List.mem_map.mp hv
  obtain ⟨_, h5, h6⟩ := ok.each b hb
  exact ⟨h5, h6⟩
theorem sum_nD (ns : List Nat) : ((ns.map Int.ofNat).sum : Int) = ((ns.sum : Nat) : Int) := by
  induction ns with
  | nil => rfl
  | cons n ns ih => rw [List.map_cons, List.sum_cons, List.sum_cons, ih]; push_cast; rfl
theorem sc_limit : FnScope ["row", "order", "volumes", "first", "last", "areas", "height", "area"] ["row", "order"] (defScope s_limit) := ⟨rfl, rfl, rfl, by decide +kernel, rfl, by decide +kernel, by decide +kernel⟩
theorem fn_limit (T : Tx K mg) (F : Dfn K mg "limit" s_limit []) (Fruns : C_runs P w K mg base) (Ftotal : C_total P w K mg base) (Fpart : C_part1 P w K mg base) (Fover : C_over P w K mg base) (Ftimes : C_times P w K mg base) (Fwith : M_with_volumes P w K mg base) : C_limit P w K mg base := by
  have sc := sc_limit
  refine F.fn (fun _ _ _ _ _ _ us hl => match us, hl with | [_, _], _ => rfl) fun f fd F => ?_
  refine fn_pure F sc (by rintro ds r ⟨_, _, rfl, _⟩; rfl) (by decide) fun cdv A outer s H ds r hr hR => ?_
  obtain ⟨x, o, rfl, hx, hs, ho, hl, rfl⟩ := hR
  have hm := hx.most
  have hxl := hx.len
  refine sds_cons (sd_asgL 2 (pl_lst pad_nil (lenOk rfl)) (fun l => ?_) sc.nd)
  obtain ⟨_, rl, r3⟩ := runSt_spec x.ar.length o x.ar.length
  refine sds_cons (sd_for (fun k ρ => ∃ e1 e2 e3 e4, ρ = [.d (rowD K x), .d (.lst (o.map nD)), .own l (.lst ((((runsOf x.ar.length o).take k).flatMap (runV x)).map qd)), e1, e2, e3, e4, .no]) (src_list (pd_call (r := .lst ((runsOf x.ar.length o).map pairD)) Fruns (hr.mono (by decide)) dfl_nil (pad_cons (pd_var 0 rfl) (pad_cons (pd_var 1 rfl) pad_nil)) ⟨x, o, rfl, ho, hl, hm, rfl⟩)) ⟨_, _, _, _, rfl⟩ (fun k d ρ hd hI => ?_) (fun ρ hI => ?_))
  · obtain ⟨e1, e2, e3, e4, rfl⟩ := hI
    rw [List.getElem?_map] at hd
    obtain ⟨q, hq, rfl⟩ := Option.map_eq_some_iff.mp hd
    obtain ⟨q1, q2⟩ := r3 q (List.mem_of_getElem? hq)
    have ok := run_ok hx hs q1 q2
    have fl := flatMap_take_succ (runV x) hq
    have elen : (((runsOf x.ar.length o).take k).flatMap (runV x)).length + (runV x q).length ≤ x.ar.length := by
      have h1 : (((runsOf x.ar.length o).take (k + 1)).flatMap (runV x)).length ≤ (limitV x o).length := by
        unfold limitV
        conv => rhs; rw [← List.take_append_drop (k + 1) (runsOf x.ar.length o), List.flatMap_append, List.length_append]
        exact Nat.le_add_right _ _
      rw [fl, List.length_append, limitV_len hx] at h1
      exact h1
    have er : runV x q = ((x.ar.take q.2).drop q.1).map fun a => sumQ ((x.vo.take q.2).drop q.1) / ((((x.ar.take q.2).drop q.1).sum : Nat) : Rat) * ((a : Nat) : Rat) := rfl
    have ec : cutD (x.ar.map nD) (some (q.1 : Int)) (some (q.2 : Int)) = ((x.ar.take q.2).drop q.1).map nD := by
      rw [cut_mid (by rw [List.length_map]; exact q2) (Nat.le_of_lt q1), ← List.map_take, ← List.map_drop]
    have ev : cutD (x.vo.map qd) (some (q.1 : Int)) (some (q.2 : Int)) = ((x.vo.take q.2).drop q.1).map qd := by
      rw [cut_mid (by rw [List.length_map, hxl]; exact q2) (Nat.le_of_lt q1), ← List.map_take, ← List.map_drop]
    obtain ⟨vs, ss, st, spos, sa, sa0, san, sh, each⟩ := ok
    have hal : ((x.ar.take q.2).drop q.1).length ≤ 24 := by rw [List.length_drop, List.length_take]; omega
    generalize hA : (x.ar.take q.2).drop q.1 = L at *
    generalize hV : (x.vo.take q.2).drop q.1 = W at *
    refine ⟨_, _, (gd_tup2 (gd_name 3 sc.nd) (gd_name 4 sc.nd)), ?_⟩
    refine sds_cons (sd_asg (d := .tup (L.map nD)) 5 (PD.is (pd_cutT (pd_fld (pd_var 0 rfl) T.clRow T.noRow_areas rfl) (pod_some (pd_var 3 rfl)) (pod_some (pd_var 4 rfl))) (by rw [ec])) ?_ sc.nd)
    refine sds_cons (sd_asg (d := qd (sumQ W / (((L.sum : Nat) : Int) : Rat))) 6 (pd_call Fover (hr.mono (by decide)) dfl_nil (pad_cons (pd_call (r := qd (sumQ W)) Ftotal (hr.mono (by decide)) dfl_nil (pad_cons (pd_cutT (pd_fld (pd_var 0 rfl) T.clRow T.noRow_volumes rfl) (pod_some (pd_var 3 rfl)) (pod_some (pd_var 4 rfl))) pad_nil) ⟨W, _, rfl, by rw [ev]; rfl, vs, ss, rfl⟩) (pad_cons (pd_call (r := qd (((L.sum : Nat) : Int) : Rat)) Fpart (hr.mono (by decide)) dfl_one (pad_cons (pd_sumT (ns := L.map Int.ofNat) T.sum (PD.is (pd_var 5 rfl) (by rw [nD_map]))) pad_nil) (by rw [sum_nD]; exact part1_ok _)) pad_nil)) ⟨_, _, rfl, st, sa, sa0, san, rfl⟩) ?_ sc.nd)
    refine sds_one (sd_augL 2 rfl (PL.lst (pl_lc (own := [("area", 7)]) (lcr_to ((runV x q).map qd) (src_tup (pd_var 5 rfl)) [7] [7] (by decide) (no1 rfl) ?_ ?_ (fun k' d y hd hy => ?_)) sc.nd rfl)) rfl ?_ ⟨E.d (nD q.1), E.d (nD q.2), E.d (.tup (L.map nD)), E.d (qd (sumQ W / (((L.sum : Nat) : Int) : Rat))), ?_⟩ sc.nd)
    · rw [er, List.length_map, List.length_map, List.length_map]
    · rw [List.length_map]; omega
    · rw [List.getElem?_map] at hd
      obtain ⟨b, hb, rfl⟩ := Option.map_eq_some_iff.mp hd
      rw [er, List.getElem?_map, List.getElem?_map, hb] at hy
      cases hy
      obtain ⟨b1, b2, b3⟩ := each b (List.mem_of_getElem? hb)
      exact ⟨_, fun _ _ _ _ _ => (gd_name 7 sc.nd), fun _ _ _ _ _ => (pd_call Ftimes (hr.mono (by decide)) dfl_nil (pad_cons (pd_var 6 rfl) (pad_cons (pd_call (r := qd (((b : Nat) : Int) : Rat)) Fpart (hr.mono (by decide)) dfl_one (pad_cons (pd_var 7 rfl) pad_nil) (part1_ok _)) pad_nil)) ⟨_, _, rfl, sh, b1, rfl⟩), rfl⟩
    · rw [List.length_map, List.length_map]; omega
    · rw [fl, List.map_append]; rfl
  · obtain ⟨e1, e2, e3, e4, rfl⟩ := hI
    have hmem := run_mem (o := o) hx hs
    refine sds_one (sd_ret (pd_meth Fwith (hr.mono (by decide)) dfl_nil (pd_var 0 rfl) (pad_cons (pd_frz 2 rfl) pad_nil) rfl ⟨x, _, _, limitV x o, rfl, hx, rfl, ?_, limitV_len hx, fun v hv => (hmem v hv).2, rfl⟩) rfl)
    rw [List.length_map, List.take_length]
    exact partDs_qd fun v hv => (hmem v hv).1.mono (by decide) (by decide)
end
end WL
set_option Elab.async false
set_option linter.all false
set_option maxRecDepth 100000
set_option maxHeartbeats 4000000
namespace WL
open PySem PySem.Spec PyProof.Rows L2
def sharesD (q : List Rat) : D := .tup (q.map qd)
theorem nk_qd (r : Rat) : nk (qd r) = .tup [.num r.num, .num (r.den : Int)] := by
  unfold qd
  rw [nk, nks_map]
  rfl
theorem nk_shares (q : List Rat) : nk (sharesD q) = .tup (q.map fun r => NestedKey.tup [.num r.num, .num (r.den : Int)]) := by
  unfold sharesD
  rw [nk, nks_map, List.map_map]
  exact congrArg NestedKey.tup (List.map_congr_left fun r _ => nk_qd r)
theorem map_inj {α β : Type} {f : α → β} (hf : ∀ a b, f a = f b → a = b) : ∀ {xs ys : List α}, xs.map f = ys.map f → xs = ys
  | [], [], _ => rfl
  | [], _ :: _, h => by simp at h
  | _ :: _, [], h => by simp at h
  | x :: xs, y :: ys, h => by
    rw [List.map_cons, List.map_cons] at h
    injection h with h1 h2
    rw [hf x y h1, map_inj hf h2]
theorem nk_shares_inj {a b : List Rat} (h : nk (sharesD a) = nk (sharesD b)) : a = b := by
  rw [nk_shares, nk_shares] at h
  refine map_inj (fun x y e => ?_) (NestedKey.tup.inj h)
  have e := NestedKey.tup.inj e
  injection e with e1 e2
  injection e2 with e2 _
  have h1 := NestedKey.num.inj e1
  have h2 := NestedKey.num.inj e2
  exact Rat.ext h1 (Int.ofNat.inj h2)
theorem mem_nk_shares {a : List Rat} {L : List (List Rat)} : nk (sharesD a) ∈ (L.map sharesD).map nk ↔ a ∈ L := by
  rw [List.map_map, List.mem_map]
  constructor
  · rintro ⟨b, hb, e⟩
    rw [← nk_shares_inj e]; exact hb
  · exact fun h => ⟨a, h, rfl⟩
theorem key_shares (q : List Rat) : keyB (sharesD q) = true := by
  unfold keyB
  have h1 : ∀ q : List Rat, kOfs (q.map qd) = true := fun q => by
    induction q with
    | nil => rfl
    | cons c l ih => rw [List.map_cons, kOfs, ih]; rfl
  have h2 : ∀ q : List Rat, NestedKey.depthAll (q.map fun r => NestedKey.tup [.num r.num, .num (r.den : Int)]) ≤ 1 := fun q => by
    induction q with
    | nil => simp [NestedKey.depthAll]
    | cons c l ih =>
      rw [List.map_cons, NestedKey.depthAll]
      have : (NestedKey.tup [.num c.num, .num (c.den : Int)]).depth = 1 := by simp [NestedKey.depth, NestedKey.depthAll]
      omega
  have h3 := h2 q
  rw [nk_shares, NestedKey.depth]
  unfold sharesD
  rw [kOf, h1]
  rw [Bool.true_and]
  exact decide_eq_true (by omega)
/-! ### shares evened -/
def evenedS (ar : List Nat) (sh : List Rat) (k : Nat) : List Rat :=
  let a := ar.getD (k - 1) 0
  let b := ar.getD k 0
  let both := sh.getD (k - 1) 0 * ((a : Rat) / ((a + b : Nat) : Rat)) + sh.getD k 0 * ((b : Rat) / ((a + b : Nat) : Rat))
  sh.take (k - 1) ++ [both, both] ++ sh.drop (k + 1)
def startS (n p : Nat) : List Rat := (List.range n).map fun b => if b < p then 1 else 0
abbrev Ly := List (List Rat × List Nat)
def stepW (ar : List Nat) (it : List Rat × List Nat) (st : Ly × Ly) (k : Nat) : Ly × Ly :=
  if evenedS ar it.1 k ∈ st.1.map (·.1) then st else (st.1 ++ [(evenedS ar it.1 k, k :: it.2)], st.2 ++ [(evenedS ar it.1 k, k :: it.2)])
def stepI (ar wrs : List Nat) (st : Ly × Ly) (it : List Rat × List Nat) : Ly × Ly := wrs.foldl (stepW ar it) st
def lySt (ar wrs : List Nat) (n p : Nat) : Nat → List Ly × Ly
  | 0 => ([[(startS n p, [])]], [(startS n p, [])])
  | t + 1 => ((lySt ar wrs n p t).1 ++ [(((lySt ar wrs n p t).1.getLastD []).foldl (stepI ar wrs) ((lySt ar wrs n p t).2, [])).2], (((lySt ar wrs n p t).1.getLastD []).foldl (stepI ar wrs) ((lySt ar wrs n p t).2, [])).1)
def layersOf (x : Rw) (p m : Nat) : List Ly := (lySt x.ar (weirsOf x) x.ar.length p m).1
/-- what the shares of turn t are like -/
def ShOk (n t : Nat) (sh : List Rat) : Prop := sh.length = n ∧ SzR (2000 ^ t) (2 ^ t) sh
theorem ShOk.up {n t : Nat} {sh : List Rat} (h : ShOk n t sh) : ShOk n (t + 1) sh := ⟨h.1, h.2.mono (Nat.pow_le_pow_right (by decide) (by omega)) (Nat.pow_le_pow_right (by decide) (by omega))⟩
theorem start_ok (n p : Nat) : ShOk n 0 (startS n p) := by
  refine ⟨by unfold startS; simp, 1, 1, by decide, by decide, by decide, fun q hq => ?_⟩
  unfold startS at hq
  obtain ⟨b, _, rfl⟩ := List.mem_map.mp hq
  split
  · exact bd_one
  · exact bd_int (i := 0) (by decide)
/-- the numbers of an evening -/
structure EvOk (u v p q : Rat) : Prop where
  su : Sm u
  sv : Sm v
  sp : Sm p
  sq : Sm q
  up : Sm (u * p)
  vq : Sm (v * q)
  both : Sm (u * p + v * q)
theorem frac_bd {a b : Nat} (h : 0 < a + b) : Bd (a + b) 1 ((a : Rat) / ((a + b : Nat) : Rat)) := by
  have := bd_frac (a := (a : Int)) (b := ((a + b : Nat) : Int)) (by omega) (by omega) (by omega)
  rw [Int.toNat_natCast, Rat.intCast_natCast, Rat.intCast_natCast] at this
  exact this
theorem frac_bd2 {a b : Nat} (h : 0 < a + b) : Bd (a + b) 1 ((b : Rat) / ((a + b : Nat) : Rat)) := by
  have := bd_frac (a := (b : Int)) (b := ((a + b : Nat) : Int)) (by omega) (by omega) (by omega)
  rw [Int.toNat_natCast, Rat.intCast_natCast, Rat.intCast_natCast] at this
  exact this
theorem ev_ok {n t : Nat} {sh : List Rat} {ar : List Nat} {k : Nat} (h : ShOk n t sh) (ht : t ≤ 8) (ha : ∀ a ∈ ar, 1 ≤ a ∧ a ≤ 1000) (hn : ar.length = n) (k1 : 1 ≤ k) (k2 : k < n) :
    EvOk (sh.getD (k - 1) 0) (sh.getD k 0) ((ar.getD (k - 1) 0 : Nat) / ((ar.getD (k - 1) 0 + ar.getD k 0 : Nat) : Rat)) ((ar.getD k 0 : Nat) / ((ar.getD (k - 1) 0 + ar.getD k 0 : Nat) : Rat)) ∧ ShOk n (t + 1) (evenedS ar sh k) := by
  obtain ⟨hl, D', M', h0, h1, h2, h3⟩ := h
  have m1 := ha _ (getD_mem (xs := ar) (i := k - 1) (d := 0) (by omega))
  have m2 := ha _ (getD_mem (xs := ar) (i := k) (d := 0) (by omega))
  have s1 := h3 _ (getD_mem (xs := sh) (i := k - 1) (d := 0) (by omega))
  have s2 := h3 _ (getD_mem (xs := sh) (i := k) (d := 0) (by omega))
  have ee : evenedS ar sh k = sh.take (k - 1) ++ [sh.getD (k - 1) 0 * ((ar.getD (k - 1) 0 : Nat) / ((ar.getD (k - 1) 0 + ar.getD k 0 : Nat) : Rat)) + sh.getD k 0 * ((ar.getD k 0 : Nat) / ((ar.getD (k - 1) 0 + ar.getD k 0 : Nat) : Rat)), sh.getD (k - 1) 0 * ((ar.getD (k - 1) 0 : Nat) / ((ar.getD (k - 1) 0 + ar.getD k 0 : Nat) : Rat)) + sh.getD k 0 * ((ar.getD k 0 : Nat) / ((ar.getD (k - 1) 0 + ar.getD k 0 : Nat) : Rat))] ++ sh.drop (k + 1) := rfl
  generalize ar.getD (k - 1) 0 = a at *
  generalize ar.getD k 0 = b at *
  generalize sh.getD (k - 1) 0 = u at *
  generalize sh.getD k 0 = v at *
  have p1 := frac_bd (a := a) (b := b) (by omega)
  have p2 := frac_bd2 (a := a) (b := b) (by omega)
  have b1 := s1.mul p1
  have b2 := s2.mul p2
  rw [Nat.mul_one] at b1 b2
  have b3 := b1.add b2
  have e1 : 2000 ^ t ≤ 2000 ^ 8 := Nat.pow_le_pow_right (by decide) ht
  have e2 : 2 ^ t ≤ 2 ^ 8 := Nat.pow_le_pow_right (by decide) ht
  have dD : D' ≤ 2 ^ 88 := Nat.le_trans h1 (Nat.le_trans e1 (by decide))
  have dM : M' ≤ 2 ^ 8 := Nat.le_trans h2 e2
  have dd : D' * (a + b) ≤ 2 ^ 100 := Nat.le_trans (Nat.mul_le_mul dD (show a + b ≤ 2 ^ 11 by omega)) (by decide)
  have big : ∀ N, N ≤ 2 ^ 100 → N < 2 ^ 4400 := fun N hN => Nat.lt_of_le_of_lt hN (Nat.pow_lt_pow_right (by decide) (by decide))
  have bigm : ∀ M N, M ≤ 2 ^ 10 → N ≤ 2 ^ 100 → M * N < 2 ^ 400000 := fun M N hM hN => Nat.lt_of_le_of_lt (Nat.le_trans (Nat.mul_le_mul hM hN) (show 2 ^ 10 * 2 ^ 100 ≤ 2 ^ 110 by decide)) (Nat.pow_lt_pow_right (by decide) (by decide))
  have pD : 0 < D' * (a + b) := Nat.mul_pos h0 (by omega)
  refine ⟨⟨s1.sm h0 (big _ (Nat.le_trans dD (by decide))) (bigm _ _ (Nat.le_trans dM (by decide)) (Nat.le_trans dD (by decide))), s2.sm h0 (big _ (Nat.le_trans dD (by decide))) (bigm _ _ (Nat.le_trans dM (by decide)) (Nat.le_trans dD (by decide))), p1.sm (by omega) (big _ (Nat.le_trans (show a + b ≤ 2 ^ 11 by omega) (by decide))) (bigm _ _ (by decide) (Nat.le_trans (show a + b ≤ 2 ^ 11 by omega) (by decide))), p2.sm (by omega) (big _ (Nat.le_trans (show a + b ≤ 2 ^ 11 by omega) (by decide))) (bigm _ _ (by decide) (Nat.le_trans (show a + b ≤ 2 ^ 11 by omega) (by decide))),
    b1.sm pD (big _ dd) (bigm _ _ (Nat.le_trans dM (by decide)) dd), b2.sm pD (big _ dd) (bigm _ _ (Nat.le_trans dM (by decide)) dd), b3.sm pD (big _ dd) (bigm _ _ (by omega) dd)⟩, ?_, D' * (a + b), M' + M', pD, ?_, ?_, fun q hq => ?_⟩
  · rw [ee]
    simp only [List.length_append, List.length_take, List.length_drop, List.length_cons, List.length_nil]
    omega
  · rw [Nat.pow_succ]
    exact Nat.mul_le_mul h1 (by omega)
  · rw [Nat.pow_succ]; omega
  · rw [ee] at hq
    simp only [List.mem_append, List.mem_cons, List.not_mem_nil, or_false, or_self] at hq
    rcases hq with (hq | hq) | hq
    · exact ((h3 q (List.mem_of_mem_take hq)).wide (E := a + b)).mono (by omega)
    · rw [hq]; exact b3
    · exact ((h3 q (List.mem_of_mem_drop hq)).wide (E := a + b)).mono (by omega)
/-- what stands during turn t + 1 -/
structure StOk (n t : Nat) (st : Ly × Ly) : Prop where
  s : ∀ q ∈ st.1, ShOk n (t + 1) q.1 ∧ q.2.length ≤ t + 1
  l : ∀ q ∈ st.2, ShOk n (t + 1) q.1 ∧ q.2.length ≤ t + 1
  sub : ∀ q ∈ st.2, q.1 ∈ st.1.map (·.1)
theorem stepW_ok {n t : Nat} {ar : List Nat} {it : List Rat × List Nat} {st : Ly × Ly} {k : Nat} (h : StOk n t st) (hi : ShOk n t it.1 ∧ it.2.length ≤ t) (ht : t ≤ 8) (ha : ∀ a ∈ ar, 1 ≤ a ∧ a ≤ 1000) (hn : ar.length = n) (k1 : 1 ≤ k) (k2 : k < n) : StOk n t (stepW ar it st k) := by
  unfold stepW
  split
  · exact h
  · have e := (ev_ok hi.1 ht ha hn k1 k2).2
    have new : ∀ q ∈ [(evenedS ar it.1 k, k :: it.2)], ShOk n (t + 1) q.1 ∧ q.2.length ≤ t + 1 := fun q hq => by
      rw [List.mem_singleton.mp hq]
      refine ⟨e, ?_⟩
      have := hi.2
      show it.2.length + 1 ≤ t + 1
      omega
    refine ⟨fun q hq => ?_, fun q hq => ?_, fun q hq => ?_⟩
    · rcases List.mem_append.mp hq with z | z
      · exact h.s q z
      · exact new q z
    · rcases List.mem_append.mp hq with z | z
      · exact h.l q z
      · exact new q z
    · show q.1 ∈ (st.1 ++ [(evenedS ar it.1 k, k :: it.2)]).map (·.1)
      rw [List.map_append]
      rcases List.mem_append.mp hq with z | z
      · exact List.mem_append_left _ (h.sub q z)
      · rw [List.mem_singleton.mp z]
        exact List.mem_append_right _ (by simp)
theorem stepW_len (ar : List Nat) (it : List Rat × List Nat) (st : Ly × Ly) (k : Nat) : (stepW ar it st k).1.length ≤ st.1.length + 1 ∧ (stepW ar it st k).2.length ≤ st.2.length + 1 := by
  unfold stepW
  split
  · exact ⟨Nat.le_succ _, Nat.le_succ _⟩
  · simp
theorem foldl_inv {α β : Type} {g : β → α → β} {S : β → Prop} : ∀ (xs : List α) (b : β), S b → (∀ b x, x ∈ xs → S b → S (g b x)) → S (xs.foldl g b)
  | [], _, h, _ => h
  | x :: xs, b, h, hs => foldl_inv xs (g b x) (hs b x (by simp) h) fun b y hy => hs b y (by simp [hy])
theorem stepI_len (ar : List Nat) (it : List Rat × List Nat) : ∀ (wrs : List Nat) (st : Ly × Ly), (wrs.foldl (stepW ar it) st).1.length ≤ st.1.length + wrs.length ∧ (wrs.foldl (stepW ar it) st).2.length ≤ st.2.length + wrs.length
  | [], st => by simp
  | k :: wrs, st => by
    have h1 := stepW_len ar it st k
    have h2 := stepI_len ar it wrs (stepW ar it st k)
    simp only [List.foldl_cons, List.length_cons]
    omega
theorem items_len (ar wrs : List Nat) : ∀ (its : Ly) (st : Ly × Ly), (its.foldl (stepI ar wrs) st).1.length ≤ st.1.length + its.length * wrs.length ∧ (its.foldl (stepI ar wrs) st).2.length ≤ st.2.length + its.length * wrs.length
  | [], st => by simp
  | it :: its, st => by
    have h1 := stepI_len ar it wrs st
    have h2 := items_len ar wrs its (stepI ar wrs st it)
    have e : (stepI ar wrs st it) = wrs.foldl (stepW ar it) st := rfl
    rw [← e] at h1
    simp only [List.foldl_cons, List.length_cons]
    rw [Nat.succ_mul]
    omega
/-- the layers after t turns -/
structure LyOk (n W t : Nat) (st : List Ly × Ly) : Prop where
  len : st.1.length = t + 1
  each : ∀ ly ∈ st.1, ly.length ≤ W ^ t ∧ ∀ q ∈ ly, ShOk n t q.1 ∧ q.2.length ≤ t
  seen : ∀ q ∈ st.2, ShOk n t q.1 ∧ q.2.length ≤ t
  size : st.2.length ≤ (t + 1) * W ^ t
theorem getLastD_mem {α : Type} {d : α} : ∀ {xs : List α}, xs ≠ [] → xs.getLastD d ∈ xs
  | [], h => absurd rfl h
  | x :: xs, _ => by
    rw [List.getLastD_cons]
    cases xs with
    | nil => simp
    | cons y ys => exact List.mem_cons_of_mem _ (getLastD_mem (by simp))
theorem items_ok {n t : Nat} {ar wrs : List Nat} {its : Ly} {st : Ly × Ly} (h : StOk n t st) (hi : ∀ it ∈ its, ShOk n t it.1 ∧ it.2.length ≤ t) (ht : t ≤ 8) (ha : ∀ a ∈ ar, 1 ≤ a ∧ a ≤ 1000) (hn : ar.length = n) (hw : ∀ k ∈ wrs, 1 ≤ k ∧ k < n) : StOk n t (its.foldl (stepI ar wrs) st) :=
  foldl_inv its st h fun b it hit hb => foldl_inv wrs b hb fun b k hk hb => stepW_ok hb (hi it hit) ht ha hn (hw k hk).1 (hw k hk).2
theorem lySt_ok {ar wrs : List Nat} {n p W : Nat} (ha : ∀ a ∈ ar, 1 ≤ a ∧ a ≤ 1000) (hn : ar.length = n) (hw : ∀ k ∈ wrs, 1 ≤ k ∧ k < n) (hW : wrs.length ≤ W) (hW1 : 1 ≤ W) : ∀ t, t ≤ 8 → LyOk n W t (lySt ar wrs n p t)
  | 0, _ => by
    refine ⟨rfl, fun ly hl => ?_, fun q hq => ?_, by simp [lySt]⟩
    · rw [lySt, List.mem_singleton] at hl
      subst hl
      refine ⟨by simp, fun q hq => ?_⟩
      rw [List.mem_singleton.mp hq]
      exact ⟨start_ok n p, Nat.le_refl _⟩
    · rw [lySt, List.mem_singleton] at hq
      subst hq
      exact ⟨start_ok n p, Nat.le_refl _⟩
  | t + 1, ht => by
    have ih := lySt_ok (p := p) ha hn hw hW hW1 t (by omega)
    rw [lySt]
    generalize lySt ar wrs n p t = st at ih
    have hne : st.1 ≠ [] := by intro z; have := ih.len; rw [z] at this; simp at this
    have hm := getLastD_mem (d := []) hne
    obtain ⟨l1, l2⟩ := ih.each _ hm
    generalize st.1.getLastD [] = its at *
    have ok := items_ok (st := (st.2, [])) (wrs := wrs) ⟨fun q hq => ⟨(ih.seen q hq).1.up, Nat.le_succ_of_le (ih.seen q hq).2⟩, fun q hq => (by cases hq), fun q hq => (by cases hq)⟩ l2 (by omega) ha hn hw
    obtain ⟨z1, z2⟩ := items_len ar wrs its (st.2, [])
    have le : its.length * wrs.length ≤ W ^ (t + 1) := by rw [Nat.pow_succ]; exact Nat.mul_le_mul l1 hW
    have lw : W ^ t ≤ W ^ (t + 1) := Nat.pow_le_pow_right hW1 (by omega)
    refine ⟨by simp [ih.len], fun ly hl => ?_, fun q hq => ok.s q hq, ?_⟩
    · rcases List.mem_append.mp hl with z | z
      · obtain ⟨e1, e2⟩ := ih.each ly z
        exact ⟨Nat.le_trans e1 lw, fun q hq => ⟨(e2 q hq).1.up, Nat.le_succ_of_le (e2 q hq).2⟩⟩
      · rw [List.mem_singleton.mp z]
        refine ⟨?_, fun q hq => ok.l q hq⟩
        simp only [List.length_nil, Nat.zero_add] at z2
        omega
    · show (List.foldl (stepI ar wrs) (st.2, []) its).1.length ≤ (t + 1 + 1) * W ^ (t + 1)
      have := ih.size
      have e3 : (t + 1) * W ^ t ≤ (t + 1) * W ^ (t + 1) := Nat.mul_le_mul_left _ lw
      rw [Nat.succ_mul (t + 1)]
      simp only at z1
      omega
end WL
set_option Elab.async false
set_option linter.all false
set_option maxRecDepth 100000
set_option maxHeartbeats 4000000
namespace WL
open PySem PySem.Spec PyProof.Rows L2
theorem frac_eq2 (a b : Nat) : Rat.divInt (b : Int) ((a : Int) + (b : Int)) = (b : Rat) / ((a + b : Nat) : Rat) := by
  rw [Rat.divInt_eq_div]
  push_cast
  rfl
def lyD (ly : Ly) : D := .dic ((ly.map (·.1)).map sharesD) (ly.map fun q => tupN q.2)
theorem keys_ok (L : List (List Rat)) : (L.map sharesD).all keyB = true := by
  rw [List.all_eq_true]
  intro d hd
  obtain ⟨q, _, rfl⟩ := List.mem_map.mp hd
  exact key_shares q
section
variable {P : Program} {w : World} {K : PySem.W.Frag} {mg : Str → Option Value} {base : Heap}
def REvened (K : PySem.W.Frag) (ds : List D) (r : D) : Prop := ∃ (x : Rw) (sh : List Rat) (k t : Nat), ds = [rowD K x, sharesD sh, nD k] ∧ (∀ a ∈ x.ar, 1 ≤ a ∧ a ≤ 1000) ∧ x.ar.length ≤ 24 ∧ 1 ≤ k ∧ k < x.ar.length ∧ t ≤ 8 ∧ ShOk x.ar.length t sh ∧ r = sharesD (evenedS x.ar sh k)
abbrev C_evened (P : Program) (w : World) (K : PySem.W.Frag) (mg : Str → Option Value) (base : Heap) : Prop := Fn P w K mg base "evened" ["row", "shares", "weir"] 4 (SpP ⟨P, w, K⟩ (REvened K)) []
theorem sc_evened : FnScope ["row", "shares", "weir", "one", "other", "both"] ["row", "shares", "weir"] (defScope s_evened) := ⟨rfl, rfl, rfl, by decide +kernel, rfl, by decide +kernel, by decide +kernel⟩
theorem fn_evened (T : Tx K mg) (F : Dfn K mg "evened" s_evened []) (Fpart : C_part P w K mg base) (Fplus : C_plus P w K mg base) (Ftimes : C_times P w K mg base) : C_evened P w K mg base := by
  have sc := sc_evened
  refine F.fn (fun _ _ _ _ _ _ us hl => match us, hl with | [_, _, _], _ => rfl) fun f fd F => ?_
  refine fn_pure F sc (by rintro ds r ⟨_, _, _, _, rfl, _⟩; rfl) (by decide) fun cdv A outer s H ds r hr hR => ?_
  obtain ⟨x, sh, k, t, rfl, ha, hm, k1, k2, ht, hs, rfl⟩ := hR
  obtain ⟨ok, ok2⟩ := ev_ok hs ht ha rfl k1 k2
  have hl := hs.1
  have ek : ((k : Int) - 1) = ((k - 1 : Nat) : Int) := by omega
  have a1 := ha _ (getD_mem (xs := x.ar) (i := k - 1) (d := 0) (by omega))
  have a2 := ha _ (getD_mem (xs := x.ar) (i := k) (d := 0) (by omega))
  have g1 : atI (x.ar.map nD) ((k : Int) - 1) = some (nD (x.ar.getD (k - 1) 0)) := by rw [ek]; exact atI_map (atI_n (getD_some (by omega)))
  have g2 : atI (x.ar.map nD) (k : Int) = some (nD (x.ar.getD k 0)) := atI_map (atI_n (getD_some (by omega)))
  have g3 : atI (sh.map qd) ((k : Int) - 1) = some (qd (sh.getD (k - 1) 0)) := by rw [ek]; exact atI_map (atI_n (getD_some (by omega)))
  have g4 : atI (sh.map qd) (k : Int) = some (qd (sh.getD k 0)) := atI_map (atI_n (getD_some (by omega)))
  have ee : evenedS x.ar sh k = sh.take (k - 1) ++ [sh.getD (k - 1) 0 * ((x.ar.getD (k - 1) 0 : Nat) / ((x.ar.getD (k - 1) 0 + x.ar.getD k 0 : Nat) : Rat)) + sh.getD k 0 * ((x.ar.getD k 0 : Nat) / ((x.ar.getD (k - 1) 0 + x.ar.getD k 0 : Nat) : Rat)), sh.getD (k - 1) 0 * ((x.ar.getD (k - 1) 0 : Nat) / ((x.ar.getD (k - 1) 0 + x.ar.getD k 0 : Nat) : Rat)) + sh.getD k 0 * ((x.ar.getD k 0 : Nat) / ((x.ar.getD (k - 1) 0 + x.ar.getD k 0 : Nat) : Rat))] ++ sh.drop (k + 1) := rfl
  generalize x.ar.getD (k - 1) 0 = a at *
  generalize x.ar.getD k 0 = b at *
  generalize sh.getD (k - 1) 0 = u at *
  generalize sh.getD k 0 = v at *
  have hb9 : ((a : Int) + (b : Int)).natAbs < 2 ^ 9000 := Nat.lt_of_le_of_lt (show ((a : Int) + (b : Int)).natAbs ≤ 2000 by omega) (Nat.lt_of_lt_of_le (show 2000 < 2 ^ 11 by decide) (Nat.pow_le_pow_right (by decide) (by omega)))
  refine sds_cons (sd_par 3 4 (pad_cons (pd_at (d := nD a) (pd_fld (pd_var 0 rfl) T.clRow T.noRow_areas rfl) (pd_sub (pd_var 2 rfl) pd_int) (atD_tup g1)) (pad_cons (pd_at (d := nD b) (pd_fld (pd_var 0 rfl) T.clRow T.noRow_areas rfl) (pd_var 2 rfl) (atD_tup g2)) pad_nil)) ?_ sc.nd)
  refine sds_cons (sd_asg (d := qd (u * ((a : Rat) / ((a + b : Nat) : Rat)) + v * ((b : Rat) / ((a + b : Nat) : Rat)))) 5 (pd_call Fplus (hr.mono (by decide)) dfl_nil (pad_cons (pd_call (r := qd (u * ((a : Rat) / ((a + b : Nat) : Rat)))) Ftimes (hr.mono (by decide)) dfl_nil (pad_cons (pd_at (d := qd u) (pd_var 1 rfl) (pd_sub (pd_var 2 rfl) pd_int) (atD_tup g3)) (pad_cons (pd_call (r := qd ((a : Rat) / ((a + b : Nat) : Rat))) Fpart (hr.mono (by decide)) dfl_nil (pad_cons (pd_var 3 rfl) (pad_cons (pd_add (pd_var 3 rfl) (pd_var 4 rfl)) pad_nil)) ⟨_, _, rfl, by omega, hb9, by rw [frac_eq]⟩) pad_nil)) ⟨_, _, rfl, ok.su, ok.sp, rfl⟩) (pad_cons (pd_call (r := qd (v * ((b : Rat) / ((a + b : Nat) : Rat)))) Ftimes (hr.mono (by decide)) dfl_nil (pad_cons (pd_at (d := qd v) (pd_var 1 rfl) (pd_var 2 rfl) (atD_tup g4)) (pad_cons (pd_call (r := qd ((b : Rat) / ((a + b : Nat) : Rat))) Fpart (hr.mono (by decide)) dfl_nil (pad_cons (pd_var 4 rfl) (pad_cons (pd_add (pd_var 3 rfl) (pd_var 4 rfl)) pad_nil)) ⟨_, _, rfl, by omega, hb9, by rw [frac_eq2]⟩) pad_nil)) ⟨_, _, rfl, ok.sv, ok.sq, rfl⟩) pad_nil)) ⟨_, _, rfl, ok.up, ok.vq, rfl⟩) ?_ sc.nd)
  refine sds_one (sd_ret (PD.is (pd_tup (pad_starT (pd_cutT (pd_var 1 rfl) pod_none (pod_some (pd_sub (pd_var 2 rfl) pd_int))) (pad_cons (pd_var 5 rfl) (pad_cons (pd_var 5 rfl) (pad_starT (pd_cutT (pd_var 1 rfl) (pod_some (pd_add (pd_var 2 rfl) pd_int)) pod_none) pad_nil)))) ?_) ?_) rfl)
  · rw [ek, cut_to, show ((k : Int) + 1) = ((k + 1 : Nat) : Int) by omega, cut_from]
    refine Nat.le_trans (m := 100000) ?_ (by decide)
    simp only [List.length_append, List.length_cons, List.length_take, List.length_drop, List.length_map, List.length_nil]
    omega
  · rw [ek, cut_to, show ((k : Int) + 1) = ((k + 1 : Nat) : Int) by omega, cut_from]
    unfold sharesD
    rw [ee]
    simp
/-! ### layers -/
def RLayers (K : PySem.W.Frag) (ds : List D) (r : D) : Prop := ∃ (x : Rw) (p m : Nat), ds = [rowD K x, nD p, nD m] ∧ RowOk x ∧ x.ar.length ≤ 7 ∧ m ≤ 3 ∧ r = .lst ((layersOf x p m).map lyD)
abbrev C_layers (P : Program) (w : World) (K : PySem.W.Frag) (mg : Str → Option Value) (base : Heap) : Prop := Fn P w K mg base "layers" ["row", "place", "many"] 5 (SpP ⟨P, w, K⟩ (RLayers K)) []
theorem lyD_get (ly : Ly) : zipD ((ly.map (·.1)).map sharesD) (ly.map fun q => tupN q.2) = ly.map fun q => .tup [sharesD q.1, tupN q.2] := by
  induction ly with
  | nil => rfl
  | cons q ly ih =>
    show D.tup [sharesD q.1, tupN q.2] :: zipD ((ly.map (·.1)).map sharesD) (ly.map fun q => tupN q.2) = _
    rw [ih]; rfl
theorem nD_zero_one (b p : Nat) : (((if b < p then 1 else 0 : Int) : Int) : Rat) = (if b < p then 1 else 0 : Rat) := by split <;> rfl
theorem sc_layers : FnScope ["row", "place", "many", "found", "basin", "seen", "turn", "late", "shares", "order", "weir", "more"] ["row", "place", "many"] (defScope s_layers) := ⟨rfl, rfl, rfl, by decide +kernel, rfl, by decide +kernel, by decide +kernel⟩
theorem fn_layers (T : Tx K mg) (F : Dfn K mg "layers" s_layers []) (Mlen : M_len P w K mg base) (Mweirs : M_weirs P w K mg base) (Fpart : C_part1 P w K mg base) (Fevened : C_evened P w K mg base) : C_layers P w K mg base := by
  have sc := sc_layers
  refine F.fn (fun _ _ _ _ _ _ us hl => match us, hl with | [_, _, _], _ => rfl) fun f fd F => ?_
  refine fn_pure F sc (by rintro ds r ⟨_, _, _, rfl, _⟩; rfl) (by decide) fun cdv A outer s H ds r hr hR => ?_
  obtain ⟨x, p, m, rfl, hx, h7, hm, rfl⟩ := hR
  have hu := hr.units
  have hwr : ∀ k ∈ weirsOf x, 1 ≤ k ∧ k < x.ar.length := fun k hk => let ⟨a, b, _⟩ := mem_weirs.mp hk; ⟨a, b⟩
  have hwl : (weirsOf x).length ≤ 6 := by
    unfold weirsOf
    refine Nat.le_trans (List.length_filter_le _ _) ?_
    rw [List.length_map, List.length_range]; omega
  have lok : ∀ t, t ≤ 8 → LyOk x.ar.length 6 t (lySt x.ar (weirsOf x) x.ar.length p t) := fun t ht => lySt_ok hx.ar rfl hwr hwl (by decide) t ht
  -- found = [{..: ()}]
  have hst : lySt x.ar (weirsOf x) x.ar.length p 0 = ([[(startS x.ar.length p, [])]], [(startS x.ar.length p, [])]) := rfl
  refine sds_cons (sd_asgL (o := .lst ((lySt x.ar (weirsOf x) x.ar.length p 0).1.map lyD)) 3 (PL.is (pl_lst (pad_cons (PL.fz (pl_dic1 (kd := sharesD (startS x.ar.length p)) hu (pd_tuple (x := .lst ((startS x.ar.length p).map qd)) T.tuple (PL.lst (pl_lc (own := [("basin", 4)]) (lcr_to ((startS x.ar.length p).map qd) (src_range1 T.range (pd_lenC (i := (x.ar.length : Nat)) Mlen T.len (hr.mono (by decide)) (pd_var 0 rfl) ⟨x, rfl, rfl⟩ (by omega)) (by omega)) [4] [4] (by decide) (no1 rfl) ?_ ?_ (fun k d y hd hy => ?_)) sc.nd rfl)) rfl) (pd_tup pad_nil (lenOk rfl)) (key_shares _) ⟨_, rfl⟩)) pad_nil) (lenOk rfl)) rfl) (fun l3 => ?_) sc.nd)
  · rw [rgFrom_len, List.length_map]; unfold startS; simp
  · rw [rgFrom_len]; omega
  · have hk : k < x.ar.length := by have := (List.getElem?_eq_some_iff.mp hd).1; rw [rgFrom_len] at this; omega
    rw [rgFrom_get (by omega)] at hd
    cases hd
    have hs : (startS x.ar.length p)[k]? = some (if k < p then 1 else 0) := by unfold startS; rw [List.getElem?_map, List.getElem?_range hk]; rfl
    rw [List.getElem?_map, hs] at hy
    cases hy
    refine ⟨_, fun _ _ _ _ _ => (gd_name 4 sc.nd), fun _ _ _ _ _ => PD.is (pd_call (r := qd (((if k < p then 1 else 0 : Int) : Int) : Rat)) Fpart (hr.mono (by decide)) dfl_one (pad_cons (pd_ifexp (d := .int (if k < p then 1 else 0)) (pt_lt (pd_var 4 rfl) (pd_var 1 rfl)) (fun hc => PD.is pd_int ?_) (fun hc => PD.is pd_int ?_)) pad_nil) (part1_ok _)) ?_, rfl⟩
    · have := of_decide_eq_true hc
      rw [if_pos (by omega)]
    · have := of_decide_eq_false hc
      rw [if_neg (by omega)]
    · rw [nD_zero_one]
  -- seen = dict(found[0])
  refine sds_cons (sd_asgL (o := .dic (((lySt x.ar (weirsOf x) x.ar.length p 0).2.map (·.1)).map sharesD) ((lySt x.ar (weirsOf x) x.ar.length p 0).2.map fun q => tupN q.2)) 5 (pl_dicC (ks := [sharesD (startS x.ar.length p)]) (ds := [tupN []]) hu T.dict (pd_atO 3 rfl pd_int rfl rfl) (by simp [key_shares]) (fun w => by simp)) (fun l5 => ?_) sc.nd)
  refine sds_cons (sd_for (fun t ρ => ∃ e6 e7 e8 e9 e10 e11, ρ = [.d (rowD K x), .d (nD p), .d (nD m), .own l3 (.lst ((lySt x.ar (weirsOf x) x.ar.length p t).1.map lyD)), .no, .own l5 (.dic (((lySt x.ar (weirsOf x) x.ar.length p t).2.map (·.1)).map sharesD) ((lySt x.ar (weirsOf x) x.ar.length p t).2.map fun q => tupN q.2)), e6, e7, e8, e9, e10, e11]) (src_range1 T.range (pd_var 2 rfl) (by omega)) ⟨_, _, _, _, _, _, rfl⟩ (fun t d ρ hd hI => ?_) (fun ρ hI => ?_))
  · obtain ⟨e6, e7, e8, e9, e10, e11, rfl⟩ := hI
    have ht : t < m := by have := (List.getElem?_eq_some_iff.mp hd).1; rw [rgFrom_len] at this; omega
    rw [rgFrom_get (by omega)] at hd
    cases hd
    have ok := lok t (by omega)
    have hnext : lySt x.ar (weirsOf x) x.ar.length p (t + 1) = ((lySt x.ar (weirsOf x) x.ar.length p t).1 ++ [(((lySt x.ar (weirsOf x) x.ar.length p t).1.getLastD []).foldl (stepI x.ar (weirsOf x)) ((lySt x.ar (weirsOf x) x.ar.length p t).2, [])).2], (((lySt x.ar (weirsOf x) x.ar.length p t).1.getLastD []).foldl (stepI x.ar (weirsOf x)) ((lySt x.ar (weirsOf x) x.ar.length p t).2, [])).1) := rfl
    have ok' := lok (t + 1) (by omega)
    rw [hnext] at ok' ⊢
    generalize lySt x.ar (weirsOf x) x.ar.length p t = st at *
    have hne : st.1 ≠ [] := by intro z; have := ok.len; rw [z] at this; simp at this
    have hmem := getLastD_mem (d := []) hne
    have hlast : st.1.getLast? = some (st.1.getLastD []) := by
      rw [List.getLastD_eq_getLast?]
      cases h : st.1.getLast? with
      | none => rw [List.getLast?_eq_none_iff] at h; exact absurd h hne
      | some y => rfl
    obtain ⟨c1, c2⟩ := ok.each _ hmem
    have hsz : st.2.length ≤ 4 * 216 := Nat.le_trans ok.size (Nat.mul_le_mul (by omega) (show 6 ^ t ≤ 216 from Nat.le_trans (Nat.pow_le_pow_right (by decide) (show t ≤ 3 by omega)) (by decide)))
    have hc1 : (st.1.getLastD []).length ≤ 216 := Nat.le_trans c1 (Nat.le_trans (Nat.pow_le_pow_right (by decide) (show t ≤ 3 by omega)) (by decide))
    have gfound : atI (st.1.map lyD) (-1) = some (lyD (st.1.getLastD [])) := atI_map (atI_last hlast)
    generalize st.1.getLastD [] = its at *
    refine ⟨_, _, (gd_name 6 sc.nd), ?_⟩
    refine sds_cons (sd_asgL 7 pl_dicE (fun l7 => ?_) sc.nd)
    have stOk0 : StOk x.ar.length t (st.2, []) := ⟨fun q hq => ⟨(ok.seen q hq).1.up, Nat.le_succ_of_le (ok.seen q hq).2⟩, fun q hq => (by cases hq), fun q hq => (by cases hq)⟩
    -- the items of the last layer
    refine sds_cons (sd_for (fun j ρ => ∃ e8 e9 e10 e11, ρ = [.d (rowD K x), .d (nD p), .d (nD m), .own l3 (.lst (st.1.map lyD)), .no, .own l5 (.dic ((((its.take j).foldl (stepI x.ar (weirsOf x)) (st.2, [])).1.map (·.1)).map sharesD) (((its.take j).foldl (stepI x.ar (weirsOf x)) (st.2, [])).1.map fun q => tupN q.2)), .d (.int (0 + (t : Int))), .own l7 (.dic ((((its.take j).foldl (stepI x.ar (weirsOf x)) (st.2, [])).2.map (·.1)).map sharesD) (((its.take j).foldl (stepI x.ar (weirsOf x)) (st.2, [])).2.map fun q => tupN q.2)), e8, e9, e10, e11])
      (src_itemsK (ks := (its.map (·.1)).map sharesD) (ds := its.map fun q => tupN q.2) (pd_atO 3 rfl (pd_neg pd_int) gfound rfl)) ⟨_, _, _, _, rfl⟩ (fun j d ρ hd hI => ?_) (fun ρ hI => ?_))
    · obtain ⟨e8, e9, e10, e11, rfl⟩ := hI
      rw [lyD_get, List.getElem?_map] at hd
      obtain ⟨it, hit, rfl⟩ := Option.map_eq_some_iff.mp hd
      have hj := (List.getElem?_eq_some_iff.mp hit).1
      have hfs : (its.take (j + 1)).foldl (stepI x.ar (weirsOf x)) (st.2, []) = stepI x.ar (weirsOf x) ((its.take j).foldl (stepI x.ar (weirsOf x)) (st.2, [])) it := foldl_take_succ _ _ hit
      have okj := items_ok (its := its.take j) (wrs := weirsOf x) stOk0 (fun it hit => c2 it (List.mem_of_mem_take hit)) (by omega) hx.ar rfl hwr
      obtain ⟨sz1, sz2⟩ := items_len x.ar (weirsOf x) (its.take j) (st.2, [])
      have szj : (its.take j).length * (weirsOf x).length ≤ 216 * 6 := Nat.mul_le_mul (by rw [List.length_take]; omega) hwl
      rw [hfs]
      generalize (its.take j).foldl (stepI x.ar (weirsOf x)) (st.2, []) = s0 at *
      have hitok := c2 it (List.mem_of_getElem? hit)
      refine ⟨_, _, (gd_tup2 (gd_name 8 sc.nd) (gd_name 9 sc.nd)), ?_⟩
      -- the weirs
      refine sds_one (sd_for (fun i ρ => ∃ e10 e11, ρ = [.d (rowD K x), .d (nD p), .d (nD m), .own l3 (.lst (st.1.map lyD)), .no, .own l5 (.dic (((((weirsOf x).take i).foldl (stepW x.ar it) s0).1.map (·.1)).map sharesD) ((((weirsOf x).take i).foldl (stepW x.ar it) s0).1.map fun q => tupN q.2)), .d (.int (0 + (t : Int))), .own l7 (.dic (((((weirsOf x).take i).foldl (stepW x.ar it) s0).2.map (·.1)).map sharesD) ((((weirsOf x).take i).foldl (stepW x.ar it) s0).2.map fun q => tupN q.2)), .d (sharesD it.1), .d (tupN it.2), e10, e11])
        (src_list (pd_meth0 (r := .lst ((weirsOf x).map nD)) Mweirs (hr.mono (by decide)) dfl_nil (pd_var 0 rfl) rfl ⟨x, rfl, by omega, rfl⟩)) ⟨_, _, rfl⟩ (fun i d ρ hd hI => ?_) (fun ρ hI => ?_))
      · obtain ⟨e10, e11, rfl⟩ := hI
        rw [List.getElem?_map] at hd
        obtain ⟨k, hk, rfl⟩ := Option.map_eq_some_iff.mp hd
        have hi := (List.getElem?_eq_some_iff.mp hk).1
        obtain ⟨k1, k2⟩ := hwr k (List.mem_of_getElem? hk)
        have hfw : ((weirsOf x).take (i + 1)).foldl (stepW x.ar it) s0 = stepW x.ar it (((weirsOf x).take i).foldl (stepW x.ar it) s0) k := foldl_take_succ _ _ hk
        have oki : StOk x.ar.length t (((weirsOf x).take i).foldl (stepW x.ar it) s0) := foldl_inv _ s0 okj fun b k hk hb => stepW_ok hb hitok (by omega) hx.ar rfl (hwr k (List.mem_of_mem_take hk)).1 (hwr k (List.mem_of_mem_take hk)).2
        obtain ⟨sw1, sw2⟩ := stepI_len x.ar it ((weirsOf x).take i) s0
        have swl : ((weirsOf x).take i).length ≤ 6 := by rw [List.length_take]; omega
        rw [hfw]
        generalize ((weirsOf x).take i).foldl (stepW x.ar it) s0 = s1 at *
        refine ⟨_, _, (gd_name 10 sc.nd), ?_⟩
        refine sds_cons (sd_asg (d := sharesD (evenedS x.ar it.1 k)) 11 (pd_call Fevened (hr.mono (by decide)) dfl_nil (pad_cons (pd_var 0 rfl) (pad_cons (pd_var 8 rfl) (pad_cons (pd_var 10 rfl) pad_nil))) ⟨x, it.1, k, t, rfl, hx.ar, by omega, k1, k2, by omega, hitok.1, rfl⟩) ?_ sc.nd)
        simp only [List.length_nil, Nat.zero_add] at sz1 sz2
        refine sds_one (sd_if (v := !decide (nk (sharesD (evenedS x.ar it.1 k)) ∈ (((s1.1.map (·.1)).map sharesD).map nk))) (pt_notInK 5 hu (pd_var 11 rfl) rfl (keys_ok _) (key_shares _) ⟨_, rfl⟩) (fun hc => ?_) (fun hc => ?_))
        · have hnot : evenedS x.ar it.1 k ∉ s1.1.map (·.1) := fun z => by
            rw [decide_eq_true (mem_nk_shares.mpr z)] at hc
            cases hc
          have hnot2 : evenedS x.ar it.1 k ∉ s1.2.map (·.1) := fun z => by
            obtain ⟨q, hq, e⟩ := List.mem_map.mp z
            exact hnot (e ▸ oki.sub q hq)
          have hstep : stepW x.ar it s1 k = (s1.1 ++ [(evenedS x.ar it.1 k, k :: it.2)], s1.2 ++ [(evenedS x.ar it.1 k, k :: it.2)]) := by unfold stepW; rw [if_neg hnot]
          rw [hstep]
          refine sds_cons (sd_asgG (d := tupN (k :: it.2)) (PD.is (pd_tup (pad_cons (pd_var 10 rfl) (pad_starT (pd_var 9 rfl) pad_nil)) ?_) (by rw [List.append_nil]; rfl)) (gd_setK 5 hu rfl (pd_var 11 rfl) (keys_ok _) (key_shares _) ⟨_, rfl⟩ (fun z => hnot (mem_nk_shares.mp z)) (by rw [List.length_map, List.length_map]; omega)) ?_)
          · have := hitok.2
            refine Nat.le_trans (m := 100000) ?_ (by decide)
            simp only [List.length_append, List.length_cons, List.length_map, List.length_nil]
            omega
          have hok2 : ((s1.1.map (·.1)).map sharesD ++ [sharesD (evenedS x.ar it.1 k)]).all keyB = true := by rw [List.all_append, keys_ok]; simp [key_shares]
          refine sds_one (sd_asgG (d := tupN (k :: it.2)) (pd_atK (m := s1.1.length) (k' := sharesD (evenedS x.ar it.1 k)) 5 hu rfl (pd_var 11 rfl) hok2 (key_shares _) ⟨_, rfl⟩ (by rw [List.getElem?_append_right (by simp)]; simp) rfl (by rw [List.getElem?_append_right (by simp)]; simp)) (gd_setK 7 hu rfl (pd_var 11 rfl) (keys_ok _) (key_shares _) ⟨_, rfl⟩ (fun z => hnot2 (mem_nk_shares.mp z)) (by rw [List.length_map, List.length_map]; omega)) ⟨E.d (nD k), E.d (sharesD (evenedS x.ar it.1 k)), ?_⟩)
          simp only [List.map_append, List.map_cons, List.map_nil]
          rfl
        · have hin : evenedS x.ar it.1 k ∈ s1.1.map (·.1) := by
            have := mem_nk_shares.mp (of_decide_eq_true (show decide (nk (sharesD (evenedS x.ar it.1 k)) ∈ (((s1.1.map (·.1)).map sharesD).map nk)) = true by
              cases hq : decide (nk (sharesD (evenedS x.ar it.1 k)) ∈ (((s1.1.map (·.1)).map sharesD).map nk)) with
              | true => rfl
              | false => rw [hq] at hc; cases hc))
            exact this
          have hstep : stepW x.ar it s1 k = s1 := by unfold stepW; rw [if_pos hin]
          rw [hstep]
          exact sds_nil ⟨E.d (nD k), E.d (sharesD (evenedS x.ar it.1 k)), rfl⟩
      · obtain ⟨e10, e11, rfl⟩ := hI
        rw [List.length_map, List.take_length]
        exact ⟨_, _, _, _, rfl⟩
    · obtain ⟨e8, e9, e10, e11, rfl⟩ := hI
      have zl : (zipD ((its.map (·.1)).map sharesD) (its.map fun q => tupN q.2)).length = its.length := by rw [lyD_get, List.length_map]
      rw [zl, List.take_length]
      obtain ⟨sz1, sz2⟩ := items_len x.ar (weirsOf x) its (st.2, [])
      have szj : its.length * (weirsOf x).length ≤ 216 * 6 := Nat.mul_le_mul hc1 hwl
      generalize its.foldl (stepI x.ar (weirsOf x)) (st.2, []) = s1 at *
      simp only [List.length_nil, Nat.zero_add] at sz1 sz2
      refine sds_cons (sd_ifF (v := false) (PTD.is (pt_gt (pd_lenK 5 T.len rfl (keys_ok _)) (pd_glob T.MOST_SHARES)) ?_) rfl (sds_nil ?_))
      · rw [List.length_map, List.length_map]
        exact decide_eq_false (by omega)
      refine sds_one (sd_append 3 rfl (pd_frz 7 rfl) rfl ?_ ⟨E.d (.int (0 + (t : Int))), E.d (lyD s1.2), e8, e9, e10, e11, ?_⟩)
      · rw [List.length_map, ok.len]; omega
      · rw [List.map_append]; rfl
  · obtain ⟨e6, e7, e8, e9, e10, e11, rfl⟩ := hI
    refine sds_one (sd_ret (pd_frz 3 rfl) ?_)
    rw [rgFrom_len]
    rfl
end
end WL
set_option Elab.async false
set_option linter.all false
set_option maxRecDepth 100000
set_option maxHeartbeats 4000000
namespace WL
open PySem PySem.Spec PyProof.Rows L2
def prodV (x : Rw) (sh : List Rat) : List Rat := List.zipWith (fun a b => a * b) x.vo sh
def worthV (x : Rw) (sh : List Rat) : Rat := sumQ (prodV x sh)
def bestStep (x : Rw) (st : Rat × List Nat) (q : List Rat × List Nat) : Rat × List Nat := if st.1 < worthV x q.1 then (worthV x q.1, q.2) else st
def bestOf (x : Rw) (p m : Nat) : Rat × List Nat := ((layersOf x p m).drop 1).foldl (fun st ly => ly.foldl (bestStep x) st) (Wv x p, [])
theorem worth_ok {x : Rw} {sh : List Rat} {t : Nat} (hs : RowSz x) (h : ShOk x.ar.length t sh) (ht : t ≤ 8) (hx : RowOk x) : (∀ q ∈ prodV x sh, Sm q) ∧ SmSums (prodV x sh) ∧ Sm (worthV x sh) := by
  obtain ⟨Dn, M, d0, d1, m1, hb⟩ := hs
  obtain ⟨hl, D', M', e0, e1, e2, e3⟩ := h
  have dD : D' ≤ 2 ^ 88 := Nat.le_trans e1 (Nat.le_trans (Nat.pow_le_pow_right (by decide) ht) (by decide))
  have dM : M' ≤ 2 ^ 8 := Nat.le_trans e2 (Nat.pow_le_pow_right (by decide) ht)
  have hp : ∀ q ∈ prodV x sh, Bd (Dn * D') (M * M') q := fun q hq => by
    unfold prodV at hq
    obtain ⟨i, hi⟩ := List.getElem?_of_mem hq
    rw [List.getElem?_zipWith] at hi
    cases ha : x.vo[i]? with
    | none => rw [ha] at hi; simp at hi
    | some a =>
      cases hb' : sh[i]? with
      | none => rw [ha, hb'] at hi; simp at hi
      | some b =>
        rw [ha, hb'] at hi
        simp at hi
        rw [← hi]
        exact (hb a (List.mem_of_getElem? ha)).mul (e3 b (List.mem_of_getElem? hb'))
  have hlen : (prodV x sh).length ≤ 24 := by
    unfold prodV
    rw [List.length_zipWith]
    have := hx.most
    have := hx.len
    omega
  have q0 : 0 < Dn * D' := Nat.mul_pos d0 e0
  have q1 : Dn * D' < 2 ^ 389 := mul_lt_pow (m := 89) d1 (Nat.lt_of_le_of_lt dD (by decide))
  have q2 : M * M' < 2 ^ 309 := mul_lt_pow (m := 9) m1 (Nat.lt_of_le_of_lt dM (by decide))
  have q3 : M * M' * 24 < 2 ^ 314 := mul_lt_pow (m := 5) q2 (by decide)
  have q4 : Dn * D' < 2 ^ 4400 := Nat.lt_of_lt_of_le q1 (Nat.pow_le_pow_right (by decide) (by decide))
  have q5 : M * M' * 24 * (Dn * D') < 2 ^ 400000 := Nat.lt_of_lt_of_le (mul_lt_pow q3 q1) (Nat.pow_le_pow_right (by decide) (by decide))
  have bs := bd_sums (N := 24) q0 q4 hp hlen q5
  have all : ∀ k, Sm (sumQ ((prodV x sh).take k)) := fun k => (bs k).sm q0 q4 q5
  refine ⟨fun q hq => (hp q hq).sm q0 q4 (Nat.lt_of_le_of_lt (Nat.mul_le_mul_right _ (Nat.le_mul_of_pos_right _ (by decide))) q5), all, ?_⟩
  have := all (prodV x sh).length
  rw [List.take_length] at this
  exact this
section
variable {P : Program} {w : World} {K : PySem.W.Frag} {mg : Str → Option Value} {base : Heap}
def RWorth (K : PySem.W.Frag) (ds : List D) (r : D) : Prop := ∃ (x : Rw) (sh : List Rat) (t : Nat), ds = [rowD K x, sharesD sh] ∧ RowOk x ∧ RowSz x ∧ t ≤ 8 ∧ ShOk x.ar.length t sh ∧ r = qd (worthV x sh)
abbrev C_worth (P : Program) (w : World) (K : PySem.W.Frag) (mg : Str → Option Value) (base : Heap) : Prop := Fn P w K mg base "worth" ["row", "shares"] 5 (SpP ⟨P, w, K⟩ (RWorth K)) []
theorem sc_worth : FnScope ["row", "shares", "volume", "share"] ["row", "shares"] (defScope s_worth) := ⟨rfl, rfl, rfl, by decide +kernel, rfl, by decide +kernel, by decide +kernel⟩
theorem fn_worth (T : Tx K mg) (F : Dfn K mg "worth" s_worth []) (Ftotal : C_total P w K mg base) (Ftimes : C_times P w K mg base) : C_worth P w K mg base := by
  have sc := sc_worth
  refine F.fn (fun _ _ _ _ _ _ us hl => match us, hl with | [_, _], _ => rfl) fun f fd F => ?_
  refine fn_pure F sc (by rintro ds r ⟨_, _, _, rfl, _⟩; rfl) (by decide) fun cdv A outer s H ds r hr hR => ?_
  obtain ⟨x, sh, t, rfl, hx, hs, ht, ho, rfl⟩ := hR
  obtain ⟨w1, w2, w3⟩ := worth_ok hs ho ht hx
  have hm := hx.most
  have hl := hx.len
  have hol := ho.1
  obtain ⟨Dn, M, d0, d1, m1, hb⟩ := id hs
  obtain ⟨_, D', M', e0, e1, e2, e3⟩ := id ho
  have sv := hs.q
  have ssh : ∀ q ∈ sh, Sm q := fun q hq => (e3 q hq).sm e0 (Nat.lt_of_le_of_lt (Nat.le_trans e1 (Nat.le_trans (Nat.pow_le_pow_right (by decide) ht) (show 2000 ^ 8 ≤ 2 ^ 88 by decide))) (Nat.pow_lt_pow_right (by decide) (by decide))) (Nat.lt_of_le_of_lt (Nat.mul_le_mul (Nat.le_trans e2 (Nat.pow_le_pow_right (by decide) ht)) (Nat.le_trans e1 (Nat.le_trans (Nat.pow_le_pow_right (by decide) ht) (show 2000 ^ 8 ≤ 2 ^ 88 by decide)))) (Nat.lt_of_le_of_lt (show 2 ^ 8 * 2 ^ 88 ≤ 2 ^ 96 by decide) (Nat.pow_lt_pow_right (by decide) (by decide))))
  refine sds_one (sd_ret (pd_call (r := qd (worthV x sh)) Ftotal (hr.mono (by decide)) dfl_nil (pad_cons (PL.lst (pl_lc (own := [("volume", 2), ("share", 3)]) (lcr_to ((prodV x sh).map qd) (src_zipT T.zip (pd_fld (pd_var 0 rfl) T.clRow T.noRow_volumes rfl) (pd_var 1 rfl)) [2, 3] [2, 3] (by decide) (no2 rfl rfl) ?_ ?_ (fun k d y hd hy => ?_)) sc.nd rfl)) pad_nil) ⟨prodV x sh, _, rfl, rfl, w1, w2, rfl⟩) rfl)
  · rw [zipD_len, List.length_map, List.length_map, List.length_map]
    unfold prodV
    rw [List.length_zipWith]
  · rw [zipD_len, List.length_map, List.length_map]; omega
  · rw [List.getElem?_map] at hy
    obtain ⟨z, hz, rfl⟩ := Option.map_eq_some_iff.mp hy
    unfold prodV at hz
    rw [List.getElem?_zipWith] at hz
    cases ha : x.vo[k]? with
    | none => rw [ha] at hz; simp at hz
    | some a =>
      cases hb' : sh[k]? with
      | none => rw [ha, hb'] at hz; simp at hz
      | some b =>
        rw [ha, hb'] at hz
        simp at hz
        subst hz
        rw [zipD_get (d := qd a) (d' := qd b) (by rw [List.getElem?_map, ha]; rfl) (by rw [List.getElem?_map, hb']; rfl)] at hd
        cases hd
        exact ⟨_, fun _ _ _ _ _ => (gd_tup2 (gd_name 2 sc.nd) (gd_name 3 sc.nd)), fun _ _ _ _ _ => (pd_call Ftimes (hr.mono (by decide)) dfl_nil (pad_cons (pd_var 2 rfl) (pad_cons (pd_var 3 rfl) pad_nil)) ⟨a, b, rfl, sv a (List.mem_of_getElem? ha), ssh b (List.mem_of_getElem? hb'), rfl⟩), rfl⟩
def RCheckMany (ds : List D) (r : D) : Prop := ∃ (m : Nat), ds = [nD m] ∧ m ≤ 8 ∧ r = .non
abbrev C_check_many (P : Program) (w : World) (K : PySem.W.Frag) (mg : Str → Option Value) (base : Heap) : Prop := Fn P w K mg base "check_many" ["many"] 2 (SpP ⟨P, w, K⟩ RCheckMany) []
theorem sc_check_many : FnScope ["many"] ["many"] (defScope s_check_many) := ⟨rfl, rfl, rfl, by decide +kernel, rfl, by decide +kernel, by decide +kernel⟩
theorem fn_check_many (T : Tx K mg) (F : Dfn K mg "check_many" s_check_many []) (Fis_whole : C_is_whole P w K mg base) : C_check_many P w K mg base := by
  have sc := sc_check_many
  refine F.fn (fun _ _ _ _ _ _ us hl => match us, hl with | [_], _ => rfl) fun f fd F => ?_
  refine fn_pure F sc (by rintro ds r ⟨_, rfl, _⟩; rfl) (by decide) fun cdv A outer s H ds r hr hR => ?_
  obtain ⟨m, rfl, hm, rfl⟩ := hR
  refine sds_one (sd_ifF (v := false) (PTD.is (pt_or2 (pt_not (PD.t (pd_call Fis_whole (hr.mono (by decide)) dfl_nil (pad_cons (pd_var 0 rfl) pad_nil) isWhole_int))) (fun _ => (pt_not (pt_lele pd_int (pd_var 0 rfl) (pd_glob T.MOST_DEEDS))))) ?_) rfl (sds_nil rfl))
  have e1 : (0 : Int) ≤ (m : Nat) := by omega
  have e2 : ((m : Nat) : Int) ≤ 8 := by omega
  simp only [e1, e2, decide_true, Bool.and_self, Bool.not_true, Bool.or_self]
def RBestI (C : Addr) (o : O) (ds : List D) (o' : O) (r : D) : Prop := ∃ dx a ls, o = .ins C dx [] [] ∧ ds = [a, .tup ls] ∧ o' = .ins C dx ["number", "order"] [a, .lst ls] ∧ r = .non
abbrev C_Best (P : Program) (w : World) (K : PySem.W.Frag) (mg : Str → Option Value) (base : Heap) : Prop := Mc P w K mg base "Best" (cA K "Best") ["self", "number", "order"] 1 (SpO ⟨P, w, K⟩ (RBestI (cA K "Best"))) []
theorem sc_Best___init__ : FnScope ["self", "number", "order"] ["self", "number", "order"] (defScope s_Best___init__) := ⟨rfl, rfl, rfl, by decide +kernel, rfl, by decide +kernel, by decide +kernel⟩
theorem mc_Best (T : Tx K mg) (F : Cdf K mg "Best" "Best.__init__" s_Best___init__ []) : C_Best P w K mg base := by
  have sc := sc_Best___init__
  refine F.mc (fun _ _ _ _ _ _ us hl => match us, hl with | [_, _, _], _ => rfl) fun f fd F => ?_
  refine fn_own F sc (by rintro o ds o' r ⟨_, _, _, _, rfl, _⟩; rfl) (by decide) fun cdv A outer s H l o ds o' r hr hR => ?_
  obtain ⟨dx, a, ls, rfl, rfl, rfl, rfl⟩ := hR
  refine sds_cons (sd_fld 0 rfl (pd_var 1 rfl) rfl (by decide) (by decide) T.clBest T.noBest_number ?_)
  exact sds_one (sd_fld 0 rfl (PL.lst (pl_list T.list (pd_var 2 rfl) rfl)) rfl (by decide) (by decide) T.clBest T.noBest_order ⟨rfl, rfl⟩)
def bestD (K : PySem.W.Frag) (b : Rat × List Nat) : D := .ins (cA K "Best") ["number", "order"] [qd b.1, .lst (b.2.map nD)]
def RBest (K : PySem.W.Frag) (ds : List D) (r : D) : Prop := ∃ (x : Rw) (p m : Nat), ds = [rowD K x, nD p, nD m] ∧ RowOk x ∧ RowSz x ∧ x.ar.length ≤ 7 ∧ p ≤ x.ar.length ∧ m ≤ 3 ∧ r = bestD K (bestOf x p m)
abbrev C_best (P : Program) (w : World) (K : PySem.W.Frag) (mg : Str → Option Value) (base : Heap) : Prop := Fn P w K mg base "best" ["row", "place", "many"] 6 (SpP ⟨P, w, K⟩ (RBest K)) []
theorem best_sm {x : Rw} {q : List Rat × List Nat} {st : Rat × List Nat} (h : Sm st.1) (hw : Sm (worthV x q.1)) : Sm (bestStep x st q).1 := by
  unfold bestStep
  split
  · exact hw
  · exact h
theorem sc_best : FnScope ["row", "place", "many", "number", "order", "layer", "shares", "late"] ["row", "place", "many"] (defScope s_best) := ⟨rfl, rfl, rfl, by decide +kernel, rfl, by decide +kernel, by decide +kernel⟩
theorem fn_best (T : Tx K mg) (F : Dfn K mg "best" s_best []) (Fcheck_place : C_check_place P w K mg base) (Fcheck_many : C_check_many P w K mg base) (Msums : M_sums P w K mg base) (Flayers : C_layers P w K mg base) (Fworth : C_worth P w K mg base) (Fis_less : C_is_less P w K mg base) (FBest : C_Best P w K mg base) : C_best P w K mg base := by
  have sc := sc_best
  refine F.fn (fun _ _ _ _ _ _ us hl => match us, hl with | [_, _, _], _ => rfl) fun f fd F => ?_
  refine fn_pure F sc (by rintro ds r ⟨_, _, _, rfl, _⟩; rfl) (by decide) fun cdv A outer s H ds r hr hR => ?_
  obtain ⟨x, p, m, rfl, hx, hs, h7, hp, hm, rfl⟩ := hR
  have hl := hx.len
  have hwr : ∀ k ∈ weirsOf x, 1 ≤ k ∧ k < x.ar.length := fun k hk => let ⟨a, b, _⟩ := mem_weirs.mp hk; ⟨a, b⟩
  have hwl : (weirsOf x).length ≤ 6 := by
    unfold weirsOf
    refine Nat.le_trans (List.length_filter_le _ _) ?_
    rw [List.length_map, List.length_range]; omega
  have lok := lySt_ok (p := p) hx.ar rfl hwr hwl (by decide) m (by omega)
  have wsm : ∀ ly ∈ layersOf x p m, ∀ q ∈ ly, ShOk x.ar.length m q.1 ∧ Sm (worthV x q.1) := fun ly hly q hq => by
    have := ((lok.each ly hly).2 q hq).1
    exact ⟨this, (worth_ok hs this (by omega) hx).2.2⟩
  have w0 : Sm (Wv x p) := (hs.w hx p).mono (by decide) (by decide)
  refine sds_cons (sd_expr (pd_call (r := .non) Fcheck_place (hr.mono (by decide)) dfl_nil (pad_cons (pd_var 0 rfl) (pad_cons (pd_var 1 rfl) pad_nil)) ⟨x, p, rfl, hp, by omega, rfl⟩) ?_)
  refine sds_cons (sd_expr (pd_call (r := .non) Fcheck_many (hr.mono (by decide)) dfl_nil (pad_cons (pd_var 2 rfl) pad_nil) ⟨m, rfl, by omega, rfl⟩) ?_)
  refine sds_cons (sd_par (d1 := qd (Wv x p)) (d2 := tupN []) 3 4 (pad_cons (pd_at (d := qd (Wv x p)) (pd_meth0 (r := .lst ((psums x.vo).map qd)) Msums (hr.mono (by decide)) dfl_nil (pd_var 0 rfl) rfl ⟨x, rfl, by omega, hs.q, hs.sums hx, rfl⟩) (pd_var 1 rfl) (atD_lst (atI_map (atI_n (psums_get (by omega)))))) (pad_cons (pd_tup pad_nil (lenOk rfl)) pad_nil)) ?_ sc.nd)
  have inv0 : ∀ (j : Nat), Sm ((((layersOf x p m).drop 1).take j).foldl (fun st ly => ly.foldl (bestStep x) st) (Wv x p, [])).1 := fun j =>
    foldl_inv (g := fun st ly => ly.foldl (bestStep x) st) (S := fun st => Sm st.1) _ (Wv x p, []) w0 fun b ly hly hb => foldl_inv (g := bestStep x) (S := fun st => Sm st.1) _ b hb fun b q hq hb => best_sm hb (wsm ly (List.mem_of_mem_drop (List.mem_of_mem_take hly)) q hq).2
  refine sds_cons (sd_for (fun j ρ => ∃ e5 e6 e7, ρ = [.d (rowD K x), .d (nD p), .d (nD m), .d (qd ((((layersOf x p m).drop 1).take j).foldl (fun st ly => ly.foldl (bestStep x) st) (Wv x p, [])).1), .d (tupN ((((layersOf x p m).drop 1).take j).foldl (fun st ly => ly.foldl (bestStep x) st) (Wv x p, [])).2), e5, e6, e7]) (src_list (xs := ((layersOf x p m).drop 1).map lyD) (PD.is (PL.lst (pl_cut (pd_call (r := .lst ((layersOf x p m).map lyD)) Flayers (hr.mono (by decide)) dfl_nil (pad_cons (pd_var 0 rfl) (pad_cons (pd_var 1 rfl) (pad_cons (pd_var 2 rfl) pad_nil))) ⟨x, p, m, rfl, hx, h7, hm, rfl⟩) (pod_some pd_int) pod_none)) ?_)) ⟨_, _, _, rfl⟩ (fun j d ρ hd hI => ?_) (fun ρ hI => ?_))
  · have := cut_from (xs := (layersOf x p m).map lyD) (n := 1)
    rw [show ((1 : Nat) : Int) = 1 from rfl] at this
    rw [this, ← List.map_drop]
  · obtain ⟨e5, e6, e7, rfl⟩ := hI
    rw [List.getElem?_map] at hd
    obtain ⟨ly, hly, rfl⟩ := Option.map_eq_some_iff.mp hd
    have hfs : (((layersOf x p m).drop 1).take (j + 1)).foldl (fun st ly => ly.foldl (bestStep x) st) (Wv x p, []) = ly.foldl (bestStep x) ((((layersOf x p m).drop 1).take j).foldl (fun st ly => ly.foldl (bestStep x) st) (Wv x p, [])) := foldl_take_succ _ _ hly
    have sj := inv0 j
    rw [hfs]
    have hlm : ly ∈ layersOf x p m := List.mem_of_mem_drop (List.mem_of_getElem? hly)
    generalize (((layersOf x p m).drop 1).take j).foldl (fun st ly => ly.foldl (bestStep x) st) (Wv x p, []) = b0 at *
    refine ⟨_, _, (gd_name 5 sc.nd), ?_⟩
    have inv1 : ∀ (i : Nat), Sm (((ly.take i).foldl (bestStep x) b0)).1 := fun i => foldl_inv (g := bestStep x) (S := fun st => Sm st.1) _ b0 sj fun b q hq hb => best_sm hb (wsm ly hlm q (List.mem_of_mem_take hq)).2
    refine sds_one (sd_for (fun i ρ => ∃ e6 e7, ρ = [.d (rowD K x), .d (nD p), .d (nD m), .d (qd ((ly.take i).foldl (bestStep x) b0).1), .d (tupN ((ly.take i).foldl (bestStep x) b0).2), .d (lyD ly), e6, e7]) (src_itemsK (ks := (ly.map (·.1)).map sharesD) (ds := ly.map fun q => tupN q.2) (pd_var 5 rfl)) ⟨_, _, rfl⟩ (fun i d ρ hd hI => ?_) (fun ρ hI => ?_))
    · obtain ⟨e6, e7, rfl⟩ := hI
      rw [lyD_get, List.getElem?_map] at hd
      obtain ⟨q, hq, rfl⟩ := Option.map_eq_some_iff.mp hd
      obtain ⟨q1, q2⟩ := wsm ly hlm q (List.mem_of_getElem? hq)
      have hfq : (ly.take (i + 1)).foldl (bestStep x) b0 = bestStep x ((ly.take i).foldl (bestStep x) b0) q := foldl_take_succ _ _ hq
      have si := inv1 i
      rw [hfq]
      generalize (ly.take i).foldl (bestStep x) b0 = b1 at *
      refine ⟨_, _, (gd_tup2 (gd_name 6 sc.nd) (gd_name 7 sc.nd)), ?_⟩
      have hw : RWorth K ([rowD K x, sharesD q.1] ++ []) (qd (worthV x q.1)) := ⟨x, q.1, m, rfl, hx, hs, by omega, q1, rfl⟩
      refine sds_one (sd_if (v := decide (b1.1 < worthV x q.1)) (PD.t (pd_call Fis_less (hr.mono (by decide)) dfl_nil (pad_cons (pd_var 3 rfl) (pad_cons (pd_call (r := qd (worthV x q.1)) Fworth (hr.mono (by decide)) dfl_nil (pad_cons (pd_var 0 rfl) (pad_cons (pd_var 6 rfl) pad_nil)) hw) pad_nil)) ⟨b1.1, worthV x q.1, rfl, si, q2, rfl⟩)) (fun hc => ?_) (fun hc => ?_))
      · refine sds_one (sd_par (d1 := qd (worthV x q.1)) (d2 := tupN q.2) 3 4 (pad_cons (pd_call (r := qd (worthV x q.1)) Fworth (hr.mono (by decide)) dfl_nil (pad_cons (pd_var 0 rfl) (pad_cons (pd_var 6 rfl) pad_nil)) hw) (pad_cons (pd_var 7 rfl) pad_nil)) ⟨E.d (sharesD q.1), E.d (tupN q.2), ?_⟩ sc.nd)
        unfold bestStep
        rw [if_pos (of_decide_eq_true hc)]
        rfl
      · refine sds_nil ⟨E.d (sharesD q.1), E.d (tupN q.2), ?_⟩
        unfold bestStep
        rw [if_neg (of_decide_eq_false hc)]
        rfl
    · obtain ⟨e6, e7, rfl⟩ := hI
      have zl : (zipD ((ly.map (·.1)).map sharesD) (ly.map fun q => tupN q.2)).length = ly.length := by rw [lyD_get, List.length_map]
      rw [zl, List.take_length]
      exact ⟨_, _, _, rfl⟩
  · obtain ⟨e5, e6, e7, rfl⟩ := hI
    rw [List.length_map, List.take_length]
    exact sds_one (sd_ret (pd_make (ns := ["number", "order"]) (fs := [qd (bestOf x p m).1, .lst ((bestOf x p m).2.map nD)]) FBest (hr.mono (by decide)) dfl_nil (pad_cons (pd_var 3 rfl) (pad_cons (pd_var 4 rfl) pad_nil)) (fun dx => ⟨dx, _, _, rfl, rfl, rfl, rfl⟩)) rfl)
end
end WL
set_option Elab.async false
set_option linter.all false
set_option maxRecDepth 100000
set_option maxHeartbeats 4000000
namespace WL
open PySem PySem.Spec PyProof.Rows L2
def pouredV (ar : List Nat) (vo : List Rat) (ps : List (Nat × Rat)) : List Rat := ps.foldl (fun v q => openV ar v q.1 q.2) vo
structure PouOk (x : Rw) (ps : List (Nat × Rat)) (D M : Nat) : Prop where
  ok : RowOk x
  w : ∀ q ∈ ps, q.1 ∈ weirsOf x ∧ 0 ≤ q.2 ∧ q.2 ≤ 1 ∧ Bd 15 1 q.2
  len : ps.length ≤ 15
  sz : SzR D M x.vo
  hD : D < 2 ^ 100
  hM : M < 2 ^ 100
theorem pow_big {a b k : Nat} (ha : a < 2 ^ 100) (hk : k ≤ 30) (hb : b ≤ 2 ^ 15) : a * b ^ k < 2 ^ 600 := by
  have h1 : b ^ k ≤ (2 ^ 15) ^ 30 := Nat.le_trans (Nat.pow_le_pow_left hb k) (Nat.pow_le_pow_right (by decide) hk)
  have h2 : (2 ^ 15) ^ 30 = 2 ^ 450 := by rw [← Nat.pow_mul]
  rw [h2] at h1
  have h3 : b ^ k < 2 ^ 451 := Nat.lt_of_le_of_lt h1 (Nat.pow_lt_pow_right (by decide) (by decide))
  exact Nat.lt_of_lt_of_le (mul_lt_pow ha h3) (Nat.pow_le_pow_right (by decide) (by decide))
theorem pou_room {D M k : Nat} (hD : D < 2 ^ 100) (hM : M < 2 ^ 100) (hk : k < 20) : D * 30000 ^ k * 2000 * 15 < 2 ^ 4400 ∧ M * 6 ^ k * 6 * (D * 30000 ^ k * 2000 * 15) < 2 ^ 400000 ∧ D * 30000 ^ k * 2000 * 15 = D * 30000 ^ (k + 1) ∧ M * 6 ^ k * 6 = M * 6 ^ (k + 1) := by
  have e1 : D * 30000 ^ k * 2000 * 15 = D * 30000 ^ (k + 1) := by rw [Nat.pow_succ, Nat.mul_assoc, Nat.mul_assoc]
  have e2 : M * 6 ^ k * 6 = M * 6 ^ (k + 1) := by rw [Nat.pow_succ, Nat.mul_assoc]
  have b1 := pow_big (a := D) (b := 30000) (k := k + 1) hD (by omega) (by decide)
  have b2 := pow_big (a := M) (b := 6) (k := k + 1) hM (by omega) (by decide)
  rw [e1, e2]
  exact ⟨Nat.lt_of_lt_of_le b1 (Nat.pow_le_pow_right (by decide) (by decide)), Nat.lt_of_lt_of_le (mul_lt_pow b2 b1) (Nat.pow_le_pow_right (by decide) (by decide)), rfl, rfl⟩
theorem pou_step {x : Rw} {ps : List (Nat × Rat)} {D M : Nat} (h : PouOk x ps D M) : ∀ k, k ≤ ps.length → RowOk { x with vo := pouredV x.ar x.vo (ps.take k) } ∧ SzR (D * 30000 ^ k) (M * 6 ^ k) (pouredV x.ar x.vo (ps.take k)) := fun k => by
  induction k with
  | zero => intro _; rw [List.take_zero]; simp only [Nat.pow_zero, Nat.mul_one]; exact ⟨h.ok, h.sz⟩
  | succ k ih =>
    intro hk
    obtain ⟨h1, h2⟩ := ih (by omega)
    have e := List.getElem?_eq_getElem (show k < ps.length by omega)
    have hv : pouredV x.ar x.vo (ps.take (k + 1)) = openV x.ar (pouredV x.ar x.vo (ps.take k)) ps[k].1 ps[k].2 := foldl_take_succ _ _ e
    obtain ⟨w1, w2, w3, w4⟩ := h.w _ (List.getElem_mem (show k < ps.length by omega))
    have := h.len
    obtain ⟨r1, r2, r3, r4⟩ := pou_room h.hD h.hM (k := k) (by omega)
    obtain ⟨q1, q2, _⟩ := open_step h1 (show ps[k].1 ∈ weirsOf { x with vo := _ } from w1) w2 w3 h2 w4 (by decide) r1 r2
    rw [hv]
    rw [r3, r4] at q2
    exact ⟨q1, q2⟩
theorem pou_op {x : Rw} {ps : List (Nat × Rat)} {D M : Nat} (h : PouOk x ps D M) {k : Nat} (hk : k < ps.length) : ∃ D' M', OpSz (pouredV x.ar x.vo (ps.take k)) ps[k].2 D' M' 15 := by
  obtain ⟨h1, h2⟩ := pou_step h k (by omega)
  obtain ⟨w1, w2, w3, w4⟩ := h.w _ (List.getElem_mem hk)
  have := h.len
  obtain ⟨r1, r2, r3, r4⟩ := pou_room h.hD h.hM (k := k) (by omega)
  obtain ⟨D', M', _, _, q⟩ := h2.op w4 (by decide) r1 r2
  exact ⟨D', M', q⟩
section
variable {P : Program} {w : World} {K : PySem.W.Frag} {mg : Str → Option Value} {base : Heap}
def RPoured (K : PySem.W.Frag) (ds : List D) (r : D) : Prop := ∃ (x : Rw) (ps : List (Nat × Rat)) (dl : List D) (Dn M : Nat), ds = [rowD K x, .lst dl] ∧ dl.length = ps.length ∧ (∀ (i : Nat) d q, dl[i]? = some d → ps[i]? = some q → ∃ d', d = .tup [nD q.1, d'] ∧ PartD d' q.2) ∧ PouOk x ps Dn M ∧ r = rowD K { x with vo := pouredV x.ar x.vo ps }
abbrev C_poured (P : Program) (w : World) (K : PySem.W.Frag) (mg : Str → Option Value) (base : Heap) : Prop := Fn P w K mg base "poured" ["row", "parts"] 8 (SpP ⟨P, w, K⟩ (RPoured K)) []
theorem sc_poured : FnScope ["row", "parts", "place", "one", "share"] ["row", "parts"] (defScope s_poured) := ⟨rfl, rfl, rfl, by decide +kernel, rfl, by decide +kernel, by decide +kernel⟩
theorem fn_poured (T : Tx K mg) (F : Dfn K mg "poured" s_poured []) (Fcheck_row : C_check_row P w K mg base) (Fis_whole : C_is_whole P w K mg base) (Min : M_in P w K mg base) (Fis_part : C_is_part P w K mg base) (Fas_part : C_as_part P w K mg base) (Fis_less : C_is_less P w K mg base) (Mop : M_opened3 P w K mg base) : C_poured P w K mg base := by
  have sc := sc_poured
  refine F.fn (fun _ _ _ _ _ _ us hl => match us, hl with | [_, _], _ => rfl) fun f fd F => ?_
  refine fn_pure F sc (by rintro ds r ⟨_, _, _, _, _, rfl, _⟩; rfl) (by decide) fun cdv A outer s H ds r hr hR => ?_
  obtain ⟨x, ps, dl, Dn, M, rfl, hl, hd, ho, rfl⟩ := hR
  have hpl := ho.len
  refine sds_cons (sd_expr (pd_call (r := .non) Fcheck_row (hr.mono (by decide)) dfl_nil (pad_cons (pd_var 0 rfl) pad_nil) ⟨x, rfl, rfl⟩) ?_)
  refine sds_cons (sd_ifF (v := false) (PTD.is (pt_or2 (pt_not (PD.t (pd_isSeq T.isinstance T.list T.tuple (pd_var 1 rfl) rfl))) (fun _ => (pt_gt (pd_len T.len (pd_var 1 rfl) rfl) (pd_glob T.MOST_ORDER)))) ?_) rfl (sds_nil ?_))
  · have e : ¬ ((20000 : Int) < (dl.length : Nat)) := by omega
    simp only [e, decide_false, Bool.not_true, Bool.or_self]
  refine sds_cons (sd_for (fun k ρ => ∃ e2 e3 e4, ρ = [.d (rowD K { x with vo := pouredV x.ar x.vo (ps.take k) }), .d (.lst dl), e2, e3, e4]) (src_enum T.enumerate (pd_var 1 rfl)) ⟨_, _, _, rfl⟩ (fun k d ρ hdk hI => ?_) (fun ρ hI => ?_))
  · obtain ⟨e2, e3, e4, rfl⟩ := hI
    have hk : k < ps.length := by have := (List.getElem?_eq_some_iff.mp hdk).1; rw [enD_len] at this; omega
    have hkd : k < dl.length := by omega
    have hx := List.getElem?_eq_getElem hkd
    rw [enD_get hx] at hdk
    cases hdk
    have hpk := List.getElem?_eq_getElem hk
    obtain ⟨d', ed, hpd⟩ := hd k _ _ hx hpk
    rw [ed]
    obtain ⟨w1, w2, w3, w4⟩ := ho.w _ (List.getElem_mem hk)
    obtain ⟨h1, _⟩ := pou_step ho k (by omega)
    obtain ⟨D', M', hop⟩ := pou_op ho hk
    have sq : Sm ps[k].2 := w4.sm (by decide) (Nat.lt_of_lt_of_le (show 15 < 2 ^ 4 by decide) (Nat.pow_le_pow_right (by decide) (by decide))) (Nat.lt_of_lt_of_le (show 1 * 15 < 2 ^ 4 by decide) (Nat.pow_le_pow_right (by decide) (by decide)))
    have hfs : pouredV x.ar x.vo (ps.take (k + 1)) = openV x.ar (pouredV x.ar x.vo (ps.take k)) ps[k].1 ps[k].2 := foldl_take_succ _ _ hpk
    rw [hfs]
    generalize hq : ps[k] = q at *
    refine ⟨_, _, (gd_tup2 (gd_name 2 sc.nd) (gd_name 3 sc.nd)), ?_⟩
    refine sds_cons (sd_ifF (v := !true || !decide ((([nD q.1, d'] : List D).length : Int) = 2) || !true || !true) (pt_or4 (pt_not (PD.t (pd_isT (v := true) "tuple" T.isinstance T.tuple PyProof.Rows.boot_tuple (pd_var 3 rfl) rfl (by decide +kernel)))) (fun _ => (pt_ne (pd_len T.len (pd_var 3 rfl) rfl) pd_int)) (fun _ _ => (pt_not (PD.t (pd_call Fis_whole (hr.mono (by decide)) dfl_nil (pad_cons (pd_at (d := nD q.1) (pd_var 3 rfl) pd_int rfl) pad_nil) isWhole_int)))) (fun _ _ _ => (pt_notInC (v := true) Min (hr.mono (by decide)) (pd_at (d := nD q.1) (pd_var 3 rfl) pd_int rfl) (pd_var 0 rfl) ⟨_, q.1, rfl, w1, rfl⟩))) rfl (sds_nil ?_))
    refine sds_cons (sd_ifF (v := !true) (pt_not (PD.t (pd_call Fis_part (hr.mono (by decide)) dfl_nil (pad_cons (pd_at (d := d') (pd_var 3 rfl) pd_int rfl) pad_nil) ⟨_, q.2, rfl, hpd, rfl⟩))) rfl (sds_nil ?_))
    refine sds_cons (sd_asg (d := qd q.2) 4 (pd_call Fas_part (hr.mono (by decide)) dfl_nil (pad_cons (pd_at (d := d') (pd_var 3 rfl) pd_int rfl) pad_nil) ⟨_, q.2, rfl, hpd, rfl⟩) ?_ sc.nd)
    refine sds_cons (sd_ifF (v := false) (PTD.is (pt_or2 (pt_lt (pd_at (d := .int q.2.num) (pd_var 4 rfl) pd_int rfl) pd_int) (fun _ => PD.t (pd_call (r := .bl (decide ((1 : Rat) < q.2))) Fis_less (hr.mono (by decide)) dfl_nil (pad_cons (pd_tup (pad_cons pd_int (pad_cons pd_int pad_nil)) (lenOk rfl)) (pad_cons (pd_var 4 rfl) pad_nil)) ⟨1, q.2, rfl, bd_one.sm (by decide) (Nat.one_lt_two_pow (by decide)) (Nat.lt_of_lt_of_le (show 1 * 1 < 2 ^ 1 by decide) (Nat.pow_le_pow_right (by decide) (by decide))), sq, rfl⟩))) ?_) rfl (sds_nil ?_))
    · have n0 : ¬ (q.2.num < 0) := by
        have := Rat.num_nonneg.mpr w2
        omega
      have n1 : ¬ ((1 : Rat) < q.2) := Rat.not_lt.mpr w3
      simp [n0, n1]
    exact sds_one (sd_asg 0 (pd_meth Mop (hr.mono (by decide)) dfl_nil (pd_var 0 rfl) (pad_cons (pd_at (d := nD q.1) (pd_var 3 rfl) pd_int rfl) (pad_cons (pd_var 4 rfl) pad_nil)) rfl ⟨_, q.1, q.2, D', M', 15, rfl, h1, w1, w2, w3, hop, rfl⟩) ⟨_, _, _, rfl⟩ sc.nd)
  · obtain ⟨e2, e3, e4, rfl⟩ := hI
    refine sds_one (sd_ret (pd_var 0 rfl) ?_)
    rw [enD_len, hl, List.take_length]
end
end WL
set_option Elab.async false
set_option linter.all false
set_option maxRecDepth 100000
set_option maxHeartbeats 4000000
namespace WL
/-! the least concave line, plainly -/
theorem rat_cancel {a b c : Rat} (hc : 0 < c) (h : a * c ≤ b * c) : a ≤ b := by
  apply Rat.not_lt.mp
  intro z
  have := Rat.mul_pos (show 0 < a - b by grind) hc
  grind
/-- the rise from a to b -/
def slp (X W : Nat → Rat) (a b : Nat) : Rat := (W b - W a) / (X b - X a)
def lnF (X W : Nat → Rat) (a b k : Nat) : Rat := W a + slp X W a b * (X k - X a)
theorem slp_spec {X W : Nat → Rat} {a b : Nat} (h : X a < X b) : slp X W a b * (X b - X a) = W b - W a := by
  unfold slp
  exact Rat.div_mul_cancel (by grind)
/-- k is not above the line through a and b -/
def Blw (X W : Nat → Rat) (a b k : Nat) : Prop := W k ≤ lnF X W a b k
theorem f1 {X W : Nat → Rat} {a' a b p : Nat} (h1 : X a' < X a) (h2 : X a < X b) (h3 : X b < X p) (u : Blw X W a' a b) (v : Blw X W a b p) : Blw X W a' a p := by
  unfold Blw lnF at *
  have e1 := slp_spec (W := W) h1
  have e2 := slp_spec (W := W) h2
  generalize slp X W a' a = s1 at *
  generalize slp X W a b = s2 at *
  have q : s2 ≤ s1 := rat_cancel (c := X b - X a) (by grind) (by grind)
  have r := Rat.mul_nonneg (show 0 ≤ s1 - s2 by grind) (show 0 ≤ X p - X a by grind)
  grind
theorem f2 {X W : Nat → Rat} {a b p k : Nat} (h1 : X a < X b) (h2 : X b < X p) (h3 : X k ≤ X b) (u : Blw X W a b k) (v : ¬ Blw X W a p b) : Blw X W b p k := by
  unfold Blw lnF at *
  have e1 := slp_spec (W := W) h1
  have e2 := slp_spec (W := W) h2
  have e3 := slp_spec (W := W) (show X a < X p by grind)
  generalize slp X W a b = s1 at *
  generalize slp X W b p = s2 at *
  generalize slp X W a p = s3 at *
  have v2 : s3 * (X b - X a) < s1 * (X b - X a) := by grind
  have q1 : s3 ≤ s1 := rat_cancel (c := X b - X a) (by grind) (by grind)
  have r1 := Rat.mul_nonneg (show 0 ≤ s1 - s3 by grind) (show 0 ≤ X p - X b by grind)
  have q2 : s2 ≤ s1 := rat_cancel (c := X p - X b) (by grind) (by grind)
  have r := Rat.mul_nonneg (show 0 ≤ s1 - s2 by grind) (show 0 ≤ X b - X k by grind)
  grind
theorem f3 {X W : Nat → Rat} {a b p k : Nat} (h1 : X a < X b) (h2 : X b < X p) (h4 : X k ≤ X p) (u : Blw X W b p k) (v : Blw X W a p b) : Blw X W a p k := by
  unfold Blw lnF at *
  have e2 := slp_spec (W := W) h2
  have e3 := slp_spec (W := W) (show X a < X p by grind)
  generalize slp X W b p = s2 at *
  generalize slp X W a p = s3 at *
  have q2 : s3 ≤ s2 := rat_cancel (c := X p - X b) (by grind) (by grind)
  have r := Rat.mul_nonneg (show 0 ≤ s2 - s3 by grind) (show 0 ≤ X p - X k by grind)
  grind
theorem f4 {X W : Nat → Rat} {a b p k : Nat} (h1 : X a < X b) (h2 : X b < X p) (h3 : X a ≤ X k) (u : Blw X W a b k) (v : Blw X W a p b) : Blw X W a p k := by
  unfold Blw lnF at *
  have e1 := slp_spec (W := W) h1
  generalize slp X W a b = s1 at *
  generalize slp X W a p = s3 at *
  have q2 : s1 ≤ s3 := rat_cancel (c := X b - X a) (by grind) (by grind)
  have r := Rat.mul_nonneg (show 0 ≤ s3 - s1 by grind) (show 0 ≤ X k - X a by grind)
  grind
theorem f5 {X W : Nat → Rat} {a b p : Nat} (h1 : X a < X b) (h2 : X b < X p) (v : ¬ Blw X W a p b) : Blw X W a b p := by
  unfold Blw lnF at *
  have e1 := slp_spec (W := W) h1
  have e3 := slp_spec (W := W) (show X a < X p by grind)
  generalize slp X W a b = s1 at *
  generalize slp X W a p = s3 at *
  have q1 : s3 ≤ s1 := rat_cancel (c := X b - X a) (by grind) (by grind)
  have r := Rat.mul_nonneg (show 0 ≤ s1 - s3 by grind) (show 0 ≤ X p - X a by grind)
  grind
theorem blw_end {X W : Nat → Rat} {a b : Nat} (h : X a < X b) : Blw X W a b b := by
  unfold Blw lnF
  have := slp_spec (W := W) h
  grind
theorem blw_start {X W : Nat → Rat} {a b : Nat} : Blw X W a b a := by
  unfold Blw lnF; grind
/-- a chord of points below a line is below it -/
theorem chord_le {X W : Nat → Rat} {i j a b p : Nat} (hij : X i < X j) (h1 : X i ≤ X p) (h2 : X p ≤ X j) (u : Blw X W a b i) (v : Blw X W a b j) : lnF X W i j p ≤ lnF X W a b p := by
  unfold Blw lnF at *
  have e := slp_spec (W := W) hij
  generalize slp X W a b = s at *
  generalize slp X W i j = t at *
  apply rat_cancel (c := X j - X i) (by grind)
  have r1 := Rat.mul_nonneg (show 0 ≤ W a + s * (X i - X a) - W i by grind) (show 0 ≤ X j - X p by grind)
  have r2 := Rat.mul_nonneg (show 0 ≤ W a + s * (X j - X a) - W j by grind) (show 0 ≤ X p - X i by grind)
  have e2 : t * (X j - X i) * (X p - X i) = (W j - W i) * (X p - X i) := by rw [e]
  grind
/-- with more water a chord is higher -/
theorem chord_mono {X W V : Nat → Rat} {i j p : Nat} (hij : X i < X j) (h1 : X i ≤ X p) (h2 : X p ≤ X j) (u : W i ≤ V i) (v : W j ≤ V j) : lnF X W i j p ≤ lnF X V i j p := by
  unfold lnF
  have e := slp_spec (W := W) hij
  have e2 := slp_spec (W := V) hij
  generalize slp X W i j = s at *
  generalize slp X V i j = t at *
  apply rat_cancel (c := X j - X i) (by grind)
  have r1 := Rat.mul_nonneg (show 0 ≤ V i - W i by grind) (show 0 ≤ X j - X p by grind)
  have r2 := Rat.mul_nonneg (show 0 ≤ V j - W j by grind) (show 0 ≤ X p - X i by grind)
  have e3 : s * (X j - X i) * (X p - X i) = (W j - W i) * (X p - X i) := by rw [e]
  have e4 : t * (X j - X i) * (X p - X i) = (V j - V i) * (X p - X i) := by rw [e2]
  grind
/-- each two neighbours of a stack (its top first) give a line that no point up to m passes -/
def Sup (X W : Nat → Rat) (first m : Nat) : List Nat → Prop
  | b :: a :: r => (∀ k, first ≤ k → k ≤ m → Blw X W a b k) ∧ Sup X W first m (a :: r)
  | _ => True
structure Stk (first m : Nat) (st : List Nat) : Prop where
  srt : st.Pairwise (· > ·)
  low : ∀ x ∈ st, first ≤ x ∧ x ≤ m
  bot : st.getLast? = some first
theorem Stk.tail {first m a b : Nat} {r : List Nat} (h : Stk first m (b :: a :: r)) : Stk first m (a :: r) :=
  ⟨(List.pairwise_cons.mp h.srt).2, fun x hx => h.low x (List.mem_cons_of_mem _ hx), by have := h.bot; rwa [List.getLast?_cons_cons] at this⟩
theorem Stk.lt {first m a b : Nat} {r : List Nat} (h : Stk first m (b :: a :: r)) : a < b := (List.pairwise_cons.mp h.srt).1 a (by simp)
/-- a new point that is not above the top's line is above none -/
theorem sup_new {X W : Nat → Rat} {first m : Nat} (hX : ∀ i j, i < j → j ≤ m + 1 → X i < X j) : ∀ (st : List Nat), Stk first m st → Sup X W first m st → (∀ b a r, st = b :: a :: r → Blw X W a b (m + 1)) → Sup X W first (m + 1) st
  | [], _, _, _ => trivial
  | [_], _, _, _ => trivial
  | b :: a :: r, hs, h, ht => by
    have hlt := hs.lt
    have hb := hs.low b (by simp)
    have htop := ht b a r rfl
    refine ⟨fun k k1 k2 => ?_, sup_new hX (a :: r) hs.tail h.2 fun b' a' r' e => ?_⟩
    · by_cases hk : k ≤ m
      · exact h.1 k k1 hk
      · have : k = m + 1 := by omega
        rw [this]; exact htop
    · cases e
      have h2 := hs.tail.lt
      have h3 := h.2.1 b hb.1 hb.2
      exact f1 (hX _ _ h2 (by omega)) (hX _ _ hlt (by omega)) (hX _ _ (show b < m + 1 by omega) (Nat.le_refl _)) h3 htop
/-- the stack behind the pops -/
theorem sup_pop {X W : Nat → Rat} {fl : Nat → Nat → Nat → Bool} {first m : Nat} (hX : ∀ i j, i < j → j ≤ m + 1 → X i < X j)
    (hfl : ∀ a b, a < b → b < m + 1 → (fl a b (m + 1) = true ↔ Blw X W a (m + 1) b)) : ∀ (st : List Nat), Stk first m st → Sup X W first m st →
    (∀ b r, st = b :: r → ∀ k, b ≤ k → k ≤ m → Blw X W b (m + 1) k) → Stk first m (popF fl (m + 1) st) ∧ Sup X W first (m + 1) ((m + 1) :: popF fl (m + 1) st)
  | [], hs, _, _ => by have := hs.bot; simp at this
  | [a], hs, _, ht => by
    have ha : a = first := by have := hs.bot; simpa using this
    subst ha
    have hl := (hs.low a (by simp)).2
    refine ⟨hs, fun k k1 k2 => ?_, trivial⟩
    by_cases hk : k ≤ m
    · exact ht a [] rfl k k1 hk
    · have : k = m + 1 := by omega
      rw [this]; exact blw_end (hX _ _ (by omega) (Nat.le_refl _))
  | b :: a :: r, hs, h, ht => by
    have hlt := hs.lt
    have hb := hs.low b (by simp)
    have xab := hX _ _ hlt (by omega)
    have xbp := hX b (m + 1) (by omega) (Nat.le_refl _)
    rw [popF]
    by_cases hf : fl a b (m + 1) = true
    · rw [if_pos hf]
      have hv := (hfl a b hlt (by omega)).mp hf
      refine sup_pop hX hfl (a :: r) hs.tail h.2 fun b' r' e k k1 k2 => ?_
      cases e
      by_cases hk : b ≤ k
      · exact f3 xab xbp (Rat.le_of_lt (hX k (m + 1) (by omega) (Nat.le_refl _))) (ht b _ rfl k hk k2) hv
      · have ha := hs.low a (by simp)
        refine f4 xab xbp ?_ (h.1 k (by omega) k2) hv
        by_cases e : a = k
        · rw [e]; exact Rat.le_refl
        · exact Rat.le_of_lt (hX _ _ (by omega) (by omega))
    · rw [if_neg hf]
      have hv : ¬ Blw X W a (m + 1) b := fun z => hf ((hfl a b hlt (by omega)).mpr z)
      refine ⟨hs, fun k k1 k2 => ?_, sup_new hX _ hs h fun b' a' r' e => ?_⟩
      · by_cases hk : k ≤ m
        · by_cases hbk : b ≤ k
          · exact ht b _ rfl k hbk hk
          · exact f2 xab xbp (Rat.le_of_lt (hX _ _ (by omega) (by omega))) (h.1 k k1 hk) hv
        · have : k = m + 1 := by omega
          rw [this]; exact blw_end xbp
      · cases e
        exact f5 xab xbp hv
theorem sup_corn {X W : Nat → Rat} {fl : Nat → Nat → Nat → Bool} {first last : Nat} (hX : ∀ i j, i < j → j ≤ last → X i < X j)
    (hfl : ∀ a b p, a < b → b < p → p ≤ last → (fl a b p = true ↔ Blw X W a p b)) : ∀ n, first + n ≤ last → Stk first (first + n) (cornSt fl first (n + 1)) ∧ Sup X W first (first + n) (cornSt fl first (n + 1)) ∧ ∃ r, cornSt fl first (n + 1) = (first + n) :: r
  | 0, _ => by
    refine ⟨⟨by simp [cornSt, popF], by simp [cornSt, popF], by simp [cornSt, popF]⟩, ?_, _, rfl⟩
    show Sup X W first (first + 0) [first + 0]
    trivial
  | n + 1, hn => by
    obtain ⟨h1, h2, r, h3⟩ := sup_corn (first := first) (last := last) hX hfl n (by omega)
    have h := sup_pop (m := first + n) (fun i j a b => hX i j a (by omega)) (fun a b x y => hfl a b (first + n + 1) x y (by omega)) _ h1 h2 fun b r' e k k1 k2 => by
      rw [h3] at e
      cases e
      have : k = first + n := by omega
      rw [this]; exact blw_start
    have e : cornSt fl first (n + 1 + 1) = (first + n + 1) :: popF fl (first + n + 1) (cornSt fl first (n + 1)) := rfl
    rw [e]
    refine ⟨⟨?_, ?_, ?_⟩, h.2, _, rfl⟩
    · refine List.pairwise_cons.mpr ⟨fun x hx => ?_, h.1.srt⟩
      have := h.1.low x hx; show first + n + 1 > x; omega
    · intro x hx
      rcases List.mem_cons.mp hx with rfl | hx
      · omega
      · have := h.1.low x hx; omega
    · have hb := h.1.bot
      cases hc : popF fl (first + n + 1) (cornSt fl first (n + 1)) with
      | nil => rw [hc] at hb; simp at hb
      | cons y ys => rw [List.getLast?_cons_cons, ← hc]; exact hb
theorem pairs_rev : ∀ (L : List Nat) (q : Nat × Nat), q ∈ pairsN L.reverse → ∃ s t, L = s ++ q.2 :: q.1 :: t := by
  intro L q h
  unfold pairsN at h
  obtain ⟨i, hi⟩ := List.mem_iff_getElem?.mp h
  rw [List.getElem?_zip_eq_some] at hi
  obtain ⟨h1, h2⟩ := hi
  rw [List.getElem?_tail] at h2
  have l2 := (List.getElem?_eq_some_iff.mp h2).1
  rw [List.length_reverse] at l2
  rw [List.getElem?_reverse (by omega)] at h1 h2
  refine ⟨L.take (L.length - 1 - (i + 1)), L.drop (L.length - 1 - i + 1), ?_⟩
  have e1 : L.drop (L.length - 1 - (i + 1)) = q.2 :: L.drop (L.length - 1 - (i + 1) + 1) := by
    rw [List.drop_eq_getElem_cons (by omega)]
    rw [(List.getElem?_eq_some_iff.mp h2).2]
  have e2 : L.drop (L.length - 1 - (i + 1) + 1) = q.1 :: L.drop (L.length - 1 - i + 1) := by
    have e : L.length - 1 - (i + 1) + 1 = L.length - 1 - i := by omega
    rw [e, List.drop_eq_getElem_cons (by omega)]
    rw [(List.getElem?_eq_some_iff.mp h1).2]
  rw [← e2, ← e1, List.take_append_drop]
theorem sup_mem {X W : Nat → Rat} {first m : Nat} : ∀ (s : List Nat) (b a : Nat) (t : List Nat), Sup X W first m (s ++ b :: a :: t) → ∀ k, first ≤ k → k ≤ m → Blw X W a b k
  | [], b, a, t, h => h.1
  | [c], b, a, t, h => h.2.1
  | c :: d :: s, b, a, t, h => sup_mem (d :: s) b a t h.2
/-- no point between first and last is above a line of two neighbouring corners -/
theorem corner_line {X W : Nat → Rat} {fl : Nat → Nat → Nat → Bool} {first last : Nat} (hl : first ≤ last) (hX : ∀ i j, i < j → j ≤ last → X i < X j)
    (hfl : ∀ a b p, a < b → b < p → p ≤ last → (fl a b p = true ↔ Blw X W a p b)) {q : Nat × Nat} (hq : q ∈ pairsN (cornSt fl first (last + 1 - first)).reverse) :
    ∀ k, first ≤ k → k ≤ last → Blw X W q.1 q.2 k := by
  obtain ⟨s, t, e⟩ := pairs_rev _ q hq
  have e2 : last + 1 - first = (last - first) + 1 := by omega
  have h := (sup_corn (first := first) (last := last) hX hfl (last - first) (by omega)).2.1
  rw [e2] at e
  rw [e] at h
  intro k k1 k2
  exact sup_mem (m := first + (last - first)) _ _ _ _ h k k1 (by omega)
end WL
set_option Elab.async false
set_option linter.all false
set_option maxRecDepth 100000
set_option maxHeartbeats 4000000
namespace WL
/-- the water ahead of each place -/
abbrev Pw (v : List Rat) (j : Nat) : Rat := sumQ (v.take j)
theorem pw_succ {v : List Rat} {j : Nat} (h : j < v.length) : Pw v (j + 1) = Pw v j + v.getD j 0 := by
  unfold Pw
  rw [List.take_add_one, getD_some (d := 0) h, sumQ_append]
  show _ + sumQ [v.getD j 0] = _
  rw [sumQ_cons, sumQ_nil]; grind
theorem pw_zero (v : List Rat) : Pw v 0 = 0 := rfl
/-- the sums ahead of two neighbours that change and keep their sum -/
theorem pw_two (A B : List Rat) (u v u' v' : Rat) (h : u + v = u' + v') (j : Nat) (hj : j ≠ A.length + 1) : Pw (A ++ [u, v] ++ B) j = Pw (A ++ [u', v'] ++ B) j := by
  unfold Pw
  by_cases h1 : j ≤ A.length
  · rw [List.append_assoc, List.append_assoc, List.take_append_of_le_length h1, List.take_append_of_le_length h1]
  · have e : ∀ (c d : Rat), (A ++ [c, d] ++ B).take j = A ++ [c, d] ++ B.take (j - (A.length + 2)) := fun c d => by
      rw [List.take_append, List.take_of_length_le (by simp; omega)]
      simp
    rw [e, e, sumQ_append, sumQ_append, sumQ_append, sumQ_append, sumQ_cons, sumQ_cons, sumQ_cons, sumQ_cons]
    grind
theorem split_two {v : List Rat} {k : Nat} (h1 : 1 ≤ k) (h2 : k < v.length) : v = v.take (k - 1) ++ [v.getD (k - 1) 0, v.getD k 0] ++ v.drop (k + 1) := by
  have e1 : v.drop (k - 1) = v.getD (k - 1) 0 :: v.drop k := by
    rw [List.drop_eq_getElem_cons (by omega)]
    have := getD_some (xs := v) (i := k - 1) (d := 0) (by omega)
    rw [List.getElem?_eq_getElem (by omega)] at this
    have e : k - 1 + 1 = k := by omega
    rw [e, Option.some.inj this]
  have e2 : v.drop k = v.getD k 0 :: v.drop (k + 1) := by
    rw [List.drop_eq_getElem_cons (by omega)]
    have := getD_some (xs := v) (i := k) (d := 0) (by omega)
    rw [List.getElem?_eq_getElem (by omega)] at this
    rw [Option.some.inj this]
  have := List.take_append_drop (k - 1) v
  rw [e1, e2] at this
  rw [List.append_assoc]
  exact this.symm
/-- the weight of the first of two neighbours -/
def frA (ar : List Nat) (k : Nat) : Rat := ((ar.getD (k - 1) 0 : Nat) : Rat) / ((ar.getD (k - 1) 0 + ar.getD k 0 : Nat) : Rat)
theorem frA_le {ar : List Nat} {k : Nat} (h : 0 < ar.getD (k - 1) 0 + ar.getD k 0) : 0 ≤ frA ar k ∧ frA ar k ≤ 1 := by
  have h0 : (0 : Rat) < ((ar.getD (k - 1) 0 + ar.getD k 0 : Nat) : Rat) := by exact_mod_cast h
  have e : frA ar k * ((ar.getD (k - 1) 0 + ar.getD k 0 : Nat) : Rat) = ((ar.getD (k - 1) 0 : Nat) : Rat) := Rat.div_mul_cancel (by grind)
  have n0 : (0 : Rat) ≤ ((ar.getD (k - 1) 0 : Nat) : Rat) := Rat.natCast_nonneg
  have n1 : ((ar.getD (k - 1) 0 : Nat) : Rat) ≤ ((ar.getD (k - 1) 0 + ar.getD k 0 : Nat) : Rat) := by exact_mod_cast Nat.le_add_right _ _
  generalize frA ar k = p at *
  generalize ((ar.getD (k - 1) 0 + ar.getD k 0 : Nat) : Rat) = c at *
  exact ⟨rat_cancel h0 (by grind), rat_cancel h0 (by grind)⟩
theorem pw_open {ar : List Nat} {v : List Rat} {k : Nat} {s : Rat} (h1 : 1 ≤ k) (h2 : k < v.length) (j : Nat) :
    Pw (openV ar v k s) j = if j = k then (1 - s) * Pw v k + s * ((1 - frA ar k) * Pw v (k - 1) + frA ar k * Pw v (k + 1)) else Pw v j := by
  have es := split_two h1 h2
  have hl : (v.take (k - 1)).length = k - 1 := by rw [List.length_take]; omega
  split
  · next e =>
    subst e
    have p1 := pw_succ (v := v) (j := j - 1) (by omega)
    have p2 := pw_succ (v := v) (j := j) (by omega)
    have ej : j - 1 + 1 = j := by omega
    rw [ej] at p1
    have : Pw (openV ar v j s) j = Pw v (j - 1) + (v.getD (j - 1) 0 + ((v.getD (j - 1) 0 + v.getD j 0) * frA ar j - v.getD (j - 1) 0) * s) := by
      unfold openV Pw
      show sumQ ((v.take (j - 1) ++ [_, _] ++ v.drop (j + 1)).take j) = _
      rw [List.append_assoc, List.take_append, hl, List.take_of_length_le (by rw [hl]; omega)]
      have e1 : j - (j - 1) = 1 := by omega
      rw [e1, sumQ_append]
      show _ + sumQ [_] = _
      rw [sumQ_cons, sumQ_nil]
      unfold frA
      grind
    rw [this]
    generalize frA ar j = p at *
    generalize v.getD (j - 1) 0 = x at *
    generalize v.getD j 0 = y at *
    rw [p2, p1]
    grind
  · next e =>
    unfold openV
    conv => rhs; rw [es]
    exact pw_two _ _ _ _ _ _ (by grind) j (by rw [hl]; omega)
/-- more water ahead of each place -/
def Dom (v w : List Rat) : Prop := ∀ j, Pw v j ≤ Pw w j
theorem dom_open {ar : List Nat} {v w : List Rat} {k : Nat} {s : Rat} (h : Dom v w) (hl : v.length = w.length) (h1 : 1 ≤ k) (h2 : k < v.length) (s0 : 0 ≤ s) (s1 : s ≤ 1) (ha : 0 < ar.getD (k - 1) 0 + ar.getD k 0) : Dom (openV ar v k s) (openV ar w k s) := fun j => by
  rw [pw_open h1 h2, pw_open h1 (by omega)]
  split
  · obtain ⟨p0, p1⟩ := frA_le ha
    have a1 := Rat.mul_nonneg (show 0 ≤ 1 - s by grind) (show 0 ≤ Pw w k - Pw v k by have := h k; grind)
    have a2 := Rat.mul_nonneg (show 0 ≤ 1 - frA ar k by grind) (show 0 ≤ Pw w (k - 1) - Pw v (k - 1) by have := h (k - 1); grind)
    have a3 := Rat.mul_nonneg (show 0 ≤ frA ar k by grind) (show 0 ≤ Pw w (k + 1) - Pw v (k + 1) by have := h (k + 1); grind)
    have a4 := Rat.mul_nonneg s0 (show 0 ≤ (1 - frA ar k) * (Pw w (k - 1) - Pw v (k - 1)) + frA ar k * (Pw w (k + 1) - Pw v (k + 1)) by grind)
    grind
  · exact h j
theorem pos_pair {ar : List Nat} {k : Nat} (h : ∀ a ∈ ar, 1 ≤ a) (hk : k < ar.length) : 0 < ar.getD (k - 1) 0 + ar.getD k 0 := by
  have : ar.getD k 0 ∈ ar := by
    have := getD_some (xs := ar) (i := k) (d := 0) hk
    exact List.mem_of_getElem? this
  have := h _ this
  omega
theorem dom_poured {ar : List Nat} (ha : ∀ a ∈ ar, 1 ≤ a) : ∀ (ps : List (Nat × Rat)) (v w : List Rat), Dom v w → v.length = ar.length → w.length = ar.length → (∀ q ∈ ps, 1 ≤ q.1 ∧ q.1 < ar.length ∧ 0 ≤ q.2 ∧ q.2 ≤ 1) → Dom (pouredV ar v ps) (pouredV ar w ps)
  | [], v, w, h, _, _, _ => h
  | q :: ps, v, w, h, lv, lw, hp => by
    obtain ⟨k1, k2, s0, s1⟩ := hp q (by simp)
    exact dom_poured ha ps (openV ar v q.1 q.2) (openV ar w q.1 q.2) (dom_open h (by omega) k1 (by omega) s0 s1 (pos_pair ha k2)) (by rw [openV_len k1 (by omega)]; exact lv) (by rw [openV_len k1 (by omega)]; exact lw) fun q hq => hp q (List.mem_cons_of_mem _ hq)
theorem behind_poured (ar : List Nat) : ∀ (o : List Nat) (v : List Rat), behindV ar v o = pouredV ar v (o.map fun k => (k, 1))
  | [], _ => rfl
  | k :: o, v => behind_poured ar o (openV ar v k 1)
theorem dom_behind {ar : List Nat} (ha : ∀ a ∈ ar, 1 ≤ a) (o : List Nat) (v w : List Rat) (h : Dom v w) (lv : v.length = ar.length) (lw : w.length = ar.length) (ho : ∀ k ∈ o, 1 ≤ k ∧ k < ar.length) : Dom (behindV ar v o) (behindV ar w o) := by
  rw [behind_poured, behind_poured]
  refine dom_poured ha _ v w h lv lw fun q hq => ?_
  obtain ⟨k, hk, rfl⟩ := List.mem_map.mp hq
  exact ⟨(ho k hk).1, (ho k hk).2, show (0 : Rat) ≤ 1 by decide, show (1 : Rat) ≤ 1 by decide⟩
end WL
set_option Elab.async false
set_option linter.all false
set_option maxRecDepth 100000
set_option maxHeartbeats 4000000
namespace WL
open PySem PySem.Spec PyProof.Rows L2
/-! the bounds, the limit -/
def XF (ar : List Nat) (k : Nat) : Rat := (((ar.take k).sum : Nat) : Rat)
theorem line_ln (x : Rw) (i j p : Nat) : lineV x i j p = lnF (XF x.ar) (Pw x.vo) i j p := by
  unfold lineV lnF slp XF Wv Xv
  push_cast
  rfl
theorem xf_lt {x : Rw} (h : RowOk x) {i j : Nat} (hij : i < j) (hj : j ≤ x.ar.length) : XF x.ar i < XF x.ar j := by
  have := Xv_lt h hij hj
  unfold XF
  exact_mod_cast this
theorem xf_le {x : Rw} (h : RowOk x) {i j : Nat} (hij : i ≤ j) (hj : j ≤ x.ar.length) : XF x.ar i ≤ XF x.ar j := by
  rcases Nat.lt_or_eq_of_le hij with z | z
  · exact Rat.le_of_lt (xf_lt h z hj)
  · rw [z]; exact Rat.le_refl
theorem ln_neg (X W : Nat → Rat) (i j p : Nat) : lnF X (fun k => - W k) i j p = - lnF X W i j p := by
  unfold lnF slp
  rw [Rat.div_def, Rat.div_def]
  grind
/-- the water, or what it is under 0 -/
def sgW (up : Bool) (v : List Rat) (k : Nat) : Rat := if up = true then Pw v k else - Pw v k
theorem ln_sg (X : Nat → Rat) (up : Bool) (v : List Rat) (i j p : Nat) : lnF X (sgW up v) i j p = if up = true then lnF X (Pw v) i j p else - lnF X (Pw v) i j p := by
  cases up with
  | true =>
    have : sgW true v = Pw v := rfl
    rw [this]; rfl
  | false =>
    have : sgW false v = fun k => - Pw v k := rfl
    rw [this, ln_neg]; rfl
theorem flat_sg (x : Rw) (up : Bool) (a b p : Nat) : flatB x up a b p = true ↔ Blw (XF x.ar) (sgW up x.vo) a p b := by
  unfold Blw
  rw [ln_sg]
  cases up with
  | true =>
    have e : sgW true x.vo b = Wv x b := rfl
    rw [e, ← line_ln]
    simp only [flatB, if_true]
    constructor
    · intro h
      have : ¬ lineV x a p b < Wv x b := by simpa using h
      exact Rat.not_lt.mp this
    · intro h
      have := Rat.not_lt.mpr h
      simpa using this
  | false =>
    have e : sgW false x.vo b = - Wv x b := rfl
    rw [e, ← line_ln]
    simp only [flatB, if_false, Bool.false_eq_true]
    constructor
    · intro h
      have : ¬ Wv x b < lineV x a p b := by simpa using h
      have := Rat.not_lt.mp this
      grind
    · intro h
      have : ¬ Wv x b < lineV x a p b := by grind
      simpa using this
theorem edge_line {x : Rw} {p : Nat} (up : Bool) (h : RowOk x) (hp : p ≤ x.ar.length) : ∀ k, (stretchAt x p).1 ≤ k → k ≤ (stretchAt x p).2 → Blw (XF x.ar) (sgW up x.vo) (edgeAt x p up).1 (edgeAt x p up).2 k := by
  obtain ⟨s1, s2, s3, s4⟩ := stretch_spec h hp
  obtain ⟨_, _, _, _, e5⟩ := edge_spec up h hp
  exact corner_line (Nat.le_of_lt s3) (fun i j a b => xf_lt h a (by omega)) (fun a b q _ _ _ => flat_sg x up a b q) e5
theorem edge_in {x : Rw} {p : Nat} (up : Bool) (h : RowOk x) (hp : p ≤ x.ar.length) : (stretchAt x p).1 ≤ (edgeAt x p up).1 ∧ (edgeAt x p up).2 ≤ (stretchAt x p).2 := by
  obtain ⟨s1, s2, s3, s4⟩ := stretch_spec h hp
  obtain ⟨_, _, _, _, e5⟩ := edge_spec up h hp
  obtain ⟨_, _, _⟩ := pairs_lt (corners_chain x up (Nat.le_of_lt s3)).srt _ e5
  next a b c =>
  unfold cornersOf at b c
  rw [List.mem_reverse] at b c
  obtain ⟨_, q, _⟩ := cornSt_spec (flatB x up) (stretchAt x p).1 ((stretchAt x p).2 + 1 - (stretchAt x p).1)
  have := q _ b
  have := q _ c
  omega
theorem edgeV_sg (x : Rw) (p : Nat) (up : Bool) : lnF (XF x.ar) (sgW up x.vo) (edgeAt x p up).1 (edgeAt x p up).2 p = if up = true then edgeV x p up else - edgeV x p up := by
  rw [ln_sg, ← line_ln]; rfl
theorem edge_ge {x : Rw} {p i j : Nat} (up : Bool) (h : RowOk x) (hp : p ≤ x.ar.length) (h1 : (stretchAt x p).1 ≤ i) (h2 : i ≤ p) (h3 : p ≤ j) (hij : i < j) (h4 : j ≤ (stretchAt x p).2) :
    lnF (XF x.ar) (sgW up x.vo) i j p ≤ (if up = true then edgeV x p up else - edgeV x p up) := by
  obtain ⟨s1, s2, s3, s4⟩ := stretch_spec h hp
  rw [← edgeV_sg]
  have hl := edge_line up h hp
  exact chord_le (xf_lt h hij (by omega)) (xf_le h h2 (by omega)) (xf_le h h3 (by omega)) (hl i h1 (by omega)) (hl j (by omega) h4)
/-- the bounds of a row with more water are no lower -/
theorem edge_mono {x y : Rw} {p : Nat} (up : Bool) (hx : RowOk x) (hy : RowOk y) (ea : y.ar = x.ar) (el : y.lk = x.lk) (hp : p ≤ x.ar.length) (h : Dom x.vo y.vo) : edgeV x p up ≤ edgeV y p up := by
  have es : stretchAt y p = stretchAt x p := by unfold stretchAt marksOf; rw [ea, el]
  obtain ⟨s1, s2, s3, s4⟩ := stretch_spec hx hp
  cases up with
  | true =>
    obtain ⟨a1, a2, a3, a4, _⟩ := edge_spec true hx hp
    obtain ⟨b1, b2⟩ := edge_in true hx hp
    have e := edgeV_sg x p true
    simp only [if_true] at e
    rw [← e]
    have h2 := edge_ge true hy (p := p) (i := (edgeAt x p true).1) (j := (edgeAt x p true).2) (by rw [ea]; exact hp) (by rw [es]; exact b1) a1 a2 a3 (by rw [es]; exact b2)
    simp only [if_true] at h2
    refine Rat.le_trans ?_ h2
    rw [ea]
    exact chord_mono (xf_lt hx a3 a4) (xf_le hx a1 (by omega)) (xf_le hx a2 a4) (h _) (h _)
  | false =>
    have hpy : p ≤ y.ar.length := by rw [ea]; exact hp
    obtain ⟨a1, a2, a3, a4, _⟩ := edge_spec false hy hpy
    obtain ⟨b1, b2⟩ := edge_in false hy hpy
    rw [es] at b1 b2
    rw [ea] at a4
    have e := edgeV_sg y p false
    simp only [if_false, Bool.false_eq_true] at e
    have h2 := edge_ge false hx (p := p) (i := (edgeAt y p false).1) (j := (edgeAt y p false).2) hp b1 a1 a2 a3 b2
    simp only [if_false, Bool.false_eq_true] at h2
    rw [ea] at e
    have : lnF (XF x.ar) (sgW false y.vo) (edgeAt y p false).1 (edgeAt y p false).2 p ≤ lnF (XF x.ar) (sgW false x.vo) (edgeAt y p false).1 (edgeAt y p false).2 p :=
      chord_mono (xf_lt hx a3 a4) (xf_le hx a1 (by omega)) (xf_le hx a2 a4) (show - Pw y.vo _ ≤ - Pw x.vo _ by have := h (edgeAt y p false).1; grind) (show - Pw y.vo _ ≤ - Pw x.vo _ by have := h (edgeAt y p false).2; grind)
    grind
/-! ### the limit -/
theorem pw_all {v : List Rat} {j : Nat} (h : v.length ≤ j) : Pw v j = Pw v v.length := by
  unfold Pw; rw [List.take_of_length_le h, List.take_length]
theorem pw_part {v : List Rat} {a b : Nat} (h : a ≤ b) : sumQ ((v.take b).drop a) = Pw v b - Pw v a := by
  unfold Pw
  have e : (v.take b).take a = v.take a := by rw [List.take_take, Nat.min_eq_left h]
  have := List.take_append_drop a (v.take b)
  rw [e] at this
  rw [← this, sumQ_append]
  simp only [this]
  grind
theorem xf_part {ar : List Nat} {a b : Nat} (h : a ≤ b) : ((((ar.take b).drop a).sum : Nat) : Rat) = XF ar b - XF ar a := by
  unfold XF
  have e : (ar.take b).take a = ar.take a := by rw [List.take_take, Nat.min_eq_left h]
  have := List.take_append_drop a (ar.take b)
  rw [e] at this
  have h2 : (ar.take b).sum = (ar.take a).sum + ((ar.take b).drop a).sum := by
    conv => lhs; rw [← this]
    rw [List.sum_append]
  rw [h2]; push_cast; grind
theorem sum_scaled (c : Rat) : ∀ L : List Nat, sumQ (L.map fun a => c * ((a : Nat) : Rat)) = c * ((L.sum : Nat) : Rat)
  | [] => by simp [sumQ_nil]
  | a :: L => by
    rw [List.map_cons, sumQ_cons, sum_scaled c L, List.sum_cons]; push_cast; grind
theorem pw_append {A B : List Rat} {j : Nat} (h : j ≤ A.length) : Pw (A ++ B) j = Pw A j := by
  unfold Pw; rw [List.take_append_of_le_length h]
theorem pw_append2 {A B : List Rat} {j : Nat} : Pw (A ++ B) (A.length + j) = Pw A A.length + Pw B j := by
  unfold Pw; rw [List.take_append, List.take_of_length_le (by omega), sumQ_append, List.take_length]
  congr 3; omega
theorem run_pw {x : Rw} {s b i : Nat} (h : s ≤ b) (hi : s + i ≤ b) : Pw (runV x (s, b)) i = slp (XF x.ar) (Pw x.vo) s b * (XF x.ar (s + i) - XF x.ar s) := by
  unfold Pw runV
  rw [← List.map_take, sum_scaled]
  simp only
  rw [pw_part h, xf_part h]
  have e : ((x.ar.take b).drop s).take i = (x.ar.take (s + i)).drop s := by
    rw [List.take_drop, List.take_take, Nat.min_eq_left hi]
  rw [e, xf_part (by omega)]
  rfl
theorem lim_at {x : Rw} (hx : RowOk x) (o : List Nat) : ∀ k, k ≤ x.ar.length →
    (∀ j, j ≤ (runSt x.ar.length o k).2 → ∃ f l, f < l ∧ f ≤ j ∧ j ≤ l ∧ l ≤ x.ar.length ∧ ∀ v, v.length = x.ar.length → Pw ((runSt x.ar.length o k).1.flatMap (runV { x with vo := v })) j = lnF (XF x.ar) (Pw v) f l j) ∧
    (∀ v, v.length = x.ar.length → Pw ((runSt x.ar.length o k).1.flatMap (runV { x with vo := v })) (runSt x.ar.length o k).2 = Pw v (runSt x.ar.length o k).2)
  | 0, _ => by
    have := hx.pos
    refine ⟨fun j hj => ⟨0, 1, by omega, by omega, ?_, by omega, fun v _ => ?_⟩, fun v _ => rfl⟩
    · have : j ≤ 0 := hj; omega
    · have : j = 0 := Nat.le_zero.mp hj
      subst this
      show (0 : Rat) = lnF _ _ 0 1 0
      unfold lnF
      rw [pw_zero]; grind
  | k + 1, hk => by
    obtain ⟨ih1, ih2⟩ := lim_at hx o k (by omega)
    obtain ⟨g1, _, _⟩ := runSt_spec x.ar.length o k
    rw [runSt]
    split
    · have el : ∀ v : List Rat, v.length = x.ar.length → ((runSt x.ar.length o k).1.flatMap (runV { x with vo := v })).length = (runSt x.ar.length o k).2 := fun v _ => run_len { x with vo := v } o k (by show k ≤ x.ar.length; omega)
      have ea : ∀ v : List Rat, ((runSt x.ar.length o k).1 ++ [((runSt x.ar.length o k).2, k + 1)]).flatMap (runV { x with vo := v }) = (runSt x.ar.length o k).1.flatMap (runV { x with vo := v }) ++ runV { x with vo := v } ((runSt x.ar.length o k).2, k + 1) := fun v => by
        rw [List.flatMap_append]; simp
      have main : ∀ i v, v.length = x.ar.length → (runSt x.ar.length o k).2 + i ≤ k + 1 → Pw (((runSt x.ar.length o k).1 ++ [((runSt x.ar.length o k).2, k + 1)]).flatMap (runV { x with vo := v })) ((runSt x.ar.length o k).2 + i) = lnF (XF x.ar) (Pw v) (runSt x.ar.length o k).2 (k + 1) ((runSt x.ar.length o k).2 + i) := fun i v hv hi => by
        have e2 := el v hv
        have e3 := ih2 v hv
        rw [ea]
        generalize hA : (runSt x.ar.length o k).1.flatMap (runV { x with vo := v }) = A at *
        rw [← e2, pw_append2]
        rw [e2, e3, run_pw (by omega) hi]
        rfl
      refine ⟨fun j hj => ?_, fun v hv => ?_⟩
      · by_cases hs : j ≤ (runSt x.ar.length o k).2
        · obtain ⟨f, l, q1, q2, q3, q4, q5⟩ := ih1 j hs
          refine ⟨f, l, q1, q2, q3, q4, fun v hv => ?_⟩
          show Pw (((runSt x.ar.length o k).1 ++ [((runSt x.ar.length o k).2, k + 1)]).flatMap _) j = _
          rw [ea, pw_append (by rw [el v hv]; exact hs)]
          exact q5 v hv
        · have hj' : j ≤ k + 1 := hj
          refine ⟨(runSt x.ar.length o k).2, k + 1, by omega, by omega, by omega, hk, fun v hv => ?_⟩
          have := main (j - (runSt x.ar.length o k).2) v hv (by omega)
          have e : (runSt x.ar.length o k).2 + (j - (runSt x.ar.length o k).2) = j := by omega
          rw [e] at this
          exact this
      · have := main (k + 1 - (runSt x.ar.length o k).2) v hv (by omega)
        have e : (runSt x.ar.length o k).2 + (k + 1 - (runSt x.ar.length o k).2) = k + 1 := by omega
        rw [e] at this
        show Pw _ (k + 1) = Pw v (k + 1)
        refine this.trans ?_
        have := slp_spec (W := Pw v) (xf_lt hx (show (runSt x.ar.length o k).2 < k + 1 by omega) hk)
        unfold lnF
        grind
    · exact ⟨ih1, ih2⟩
theorem dom_limit {x : Rw} (hx : RowOk x) (o : List Nat) {v w : List Rat} (lv : v.length = x.ar.length) (lw : w.length = x.ar.length) (h : Dom v w) : Dom (limitV { x with vo := v } o) (limitV { x with vo := w } o) := fun j => by
  obtain ⟨h1, _⟩ := lim_at hx o x.ar.length (Nat.le_refl _)
  have he := runs_end x.ar.length o hx.pos
  have key : ∀ j, j ≤ x.ar.length → Pw (limitV { x with vo := v } o) j ≤ Pw (limitV { x with vo := w } o) j := fun j hj => by
    obtain ⟨f, l, q1, q2, q3, q4, q5⟩ := h1 j (by rw [he]; exact hj)
    have e1 := q5 v lv
    have e2 := q5 w lw
    show Pw ((runSt x.ar.length o x.ar.length).1.flatMap _) j ≤ Pw ((runSt x.ar.length o x.ar.length).1.flatMap _) j
    rw [e1, e2]
    exact chord_mono (xf_lt hx q1 q4) (xf_le hx q2 (by omega)) (xf_le hx q3 q4) (h _) (h _)
  have len : ∀ v : List Rat, v.length = x.ar.length → (limitV { x with vo := v } o).length = x.ar.length := fun v _ => by
    unfold limitV runsOf
    have := run_len { x with vo := v } o x.ar.length (Nat.le_refl _)
    exact this.trans he
  by_cases hj : j ≤ x.ar.length
  · exact key j hj
  · rw [pw_all (by rw [len v lv]; omega), pw_all (v := limitV { x with vo := w } o) (by rw [len w lw]; omega), len v lv, len w lw]
    exact key _ (Nat.le_refl _)
end WL
set_option Elab.async false
set_option linter.all false
set_option maxRecDepth 100000
set_option maxHeartbeats 4000000
namespace WL
open PySem PySem.Spec PyProof.Rows L2
/-! best amounts -/
/-- shares that fall, none below 0 -/
structure Fall (n : Nat) (sh : List Rat) : Prop where
  len : sh.length = n
  le : ∀ i j, i ≤ j → j < n → sh.getD j 0 ≤ sh.getD i 0
  nn : ∀ i, 0 ≤ sh.getD i 0
theorem fall_tail {n : Nat} {s : Rat} {sh : List Rat} (h : Fall (n + 1) (s :: sh)) : Fall n sh :=
  ⟨by have := h.len; simpa using this, fun i j h1 h2 => by have := h.le (i + 1) (j + 1) (by omega) (by omega); simpa using this, fun i => by have := h.nn (i + 1); simpa using this⟩
theorem worth_aux : ∀ (n : Nat) (sh v w : List Rat) (a b : Rat), Fall n sh → v.length = n → w.length = n → (∀ j, a + Pw v j ≤ b + Pw w j) → a * sh.getD 0 0 + sumQ (List.zipWith (fun a b => a * b) v sh) ≤ b * sh.getD 0 0 + sumQ (List.zipWith (fun a b => a * b) w sh)
  | 0, sh, v, w, a, b, hf, hv, hw, h => by
    have e1 : v = [] := List.length_eq_zero_iff.mp hv
    have e2 : w = [] := List.length_eq_zero_iff.mp hw
    subst e1; subst e2
    have h0 := h 0
    rw [pw_zero] at h0
    have := Rat.mul_nonneg (show 0 ≤ b - a by grind) (hf.nn 0)
    simp only [List.zipWith_nil_left, sumQ_nil]
    grind
  | n + 1, [], v, w, a, b, hf, hv, hw, h => by have := hf.len; simp at this
  | n + 1, s :: sh, [], w, a, b, hf, hv, hw, h => by simp at hv
  | n + 1, s :: sh, x :: v, [], a, b, hf, hv, hw, h => by simp at hw
  | n + 1, s :: sh, x :: v, y :: w, a, b, hf, hv, hw, h => by
    have st : ∀ (z : Rat) (zs : List Rat) (j : Nat), Pw (z :: zs) (j + 1) = z + Pw zs j := fun z zs j => by
      unfold Pw; rw [List.take_succ_cons, sumQ_cons]
    have ih := worth_aux n sh v w (a + x) (b + y) (fall_tail hf) (by simpa using hv) (by simpa using hw) fun j => by
      have := h (j + 1); rw [st, st] at this; grind
    have h1 := h 1
    rw [st, st, pw_zero, pw_zero] at h1
    have hs : sh.getD 0 0 ≤ s := by
      cases n with
      | zero =>
        have e : sh = [] := List.length_eq_zero_iff.mp (by have := hf.len; simpa using this)
        subst e
        have := hf.nn 0; simpa using this
      | succ n => have := hf.le 0 1 (by omega) (by omega); simpa using this
    have := Rat.mul_nonneg (show 0 ≤ (b + y) - (a + x) by grind) (show 0 ≤ s - sh.getD 0 0 by grind)
    simp only [List.zipWith_cons_cons, sumQ_cons, List.getD_cons_zero]
    generalize sumQ (List.zipWith (fun a b => a * b) v sh) = A at *
    generalize sumQ (List.zipWith (fun a b => a * b) w sh) = B at *
    generalize sh.getD 0 0 = t at *
    grind
theorem worth_mono {x y : Rw} {sh : List Rat} (hf : Fall x.ar.length sh) (lx : x.vo.length = x.ar.length) (ly : y.vo.length = x.ar.length) (h : Dom x.vo y.vo) : worthV x sh ≤ worthV y sh := by
  have := worth_aux _ sh x.vo y.vo 0 0 hf lx ly fun j => by have := h j; grind
  unfold worthV prodV
  grind
theorem start_fall (n p : Nat) : Fall n (startS n p) := by
  have g : ∀ i, (startS n p).getD i 0 = if i < n ∧ i < p then 1 else 0 := fun i => by
    unfold startS
    rw [List.getD_eq_getElem?_getD, List.getElem?_map]
    by_cases hi : i < n
    · rw [List.getElem?_range hi]
      by_cases hp : i < p <;> simp [hi, hp]
    · rw [List.getElem?_eq_none (by simp; omega)]
      simp [hi]
  refine ⟨by unfold startS; simp, fun i j h1 h2 => ?_, fun i => ?_⟩
  · rw [g, g]
    by_cases hp : j < p
    · rw [if_pos ⟨h2, hp⟩, if_pos ⟨by omega, by omega⟩]; exact Rat.le_refl
    · rw [if_neg (by omega)]
      split <;> decide
  · rw [g]; split <;> decide
theorem even_fall {n : Nat} {ar : List Nat} {sh : List Rat} {k : Nat} (h : Fall n sh) (ha : ∀ a ∈ ar, 1 ≤ a) (hn : ar.length = n) (k1 : 1 ≤ k) (k2 : k < n) : Fall n (evenedS ar sh k) := by
  have hl := h.len
  have hp := pos_pair ha (k := k) (by omega)
  obtain ⟨p0, p1⟩ := frA_le hp
  have hr : ((ar.getD k 0 : Nat) : Rat) / ((ar.getD (k - 1) 0 + ar.getD k 0 : Nat) : Rat) = 1 - frA ar k := by
    unfold frA
    have h0 : (0 : Rat) < ((ar.getD (k - 1) 0 + ar.getD k 0 : Nat) : Rat) := by exact_mod_cast hp
    have e2 : ((ar.getD k 0 : Nat) : Rat) = ((ar.getD (k - 1) 0 + ar.getD k 0 : Nat) : Rat) - ((ar.getD (k - 1) 0 : Nat) : Rat) := by push_cast; grind
    rw [e2, Rat.div_def, Rat.div_def]
    have := Rat.mul_inv_cancel _ (Rat.ne_of_gt h0)
    grind
  have hle := h.le (k - 1) k (by omega) k2
  have g : ∀ i, (evenedS ar sh k).getD i 0 = if i = k - 1 ∨ i = k then sh.getD (k - 1) 0 * frA ar k + sh.getD k 0 * (1 - frA ar k) else sh.getD i 0 := fun i => by
    unfold evenedS
    simp only
    rw [hr]
    show (List.take (k - 1) sh ++ [_, _] ++ List.drop (k + 1) sh).getD i 0 = _
    have lt : (List.take (k - 1) sh).length = k - 1 := by rw [List.length_take]; omega
    simp only [List.getD_eq_getElem?_getD]
    by_cases c1 : i < k - 1
    · rw [List.append_assoc, List.getElem?_append_left (by rw [lt]; exact c1), List.getElem?_take, if_pos c1, if_neg (by omega)]
    · rw [List.append_assoc, List.getElem?_append_right (by rw [lt]; omega), lt]
      by_cases c2 : i = k - 1
      · have : i - (k - 1) = 0 := by omega
        rw [this, if_pos (.inl c2)]; rfl
      · by_cases c3 : i = k
        · have : i - (k - 1) = 1 := by omega
          rw [this, if_pos (.inr c3)]; rfl
        · rw [if_neg (by omega), List.getElem?_append_right (by show 2 ≤ _; omega), List.getElem?_drop]
          congr 2
          simp only [List.length_cons, List.length_nil]
          omega
  have b1 := Rat.mul_nonneg p0 (show 0 ≤ sh.getD (k - 1) 0 - sh.getD k 0 by grind)
  have b2 := Rat.mul_nonneg (show 0 ≤ 1 - frA ar k by grind) (show 0 ≤ sh.getD (k - 1) 0 - sh.getD k 0 by grind)
  refine ⟨?_, fun i j h1 h2 => ?_, fun i => ?_⟩
  · unfold evenedS; simp; omega
  · rw [g, g]
    by_cases ci : i = k - 1 ∨ i = k
    · rw [if_pos ci]
      by_cases cj : j = k - 1 ∨ j = k
      · rw [if_pos cj]; exact Rat.le_refl
      · rw [if_neg cj]
        have := h.le k j (by omega) h2
        grind
    · rw [if_neg ci]
      by_cases cj : j = k - 1 ∨ j = k
      · rw [if_pos cj]
        have := h.le i (k - 1) (by omega) (by omega)
        grind
      · rw [if_neg cj]; exact h.le i j h1 h2
  · rw [g]
    split
    · have := h.nn k
      grind
    · exact h.nn i
theorem layers_fall {ar wrs : List Nat} {n p : Nat} (ha : ∀ a ∈ ar, 1 ≤ a) (hn : ar.length = n) (hw : ∀ k ∈ wrs, 1 ≤ k ∧ k < n) : ∀ t, (∀ ly ∈ (lySt ar wrs n p t).1, ∀ q ∈ ly, Fall n q.1) ∧ (lySt ar wrs n p t).1 ≠ []
  | 0 => by
    refine ⟨fun ly hl q hq => ?_, by simp [lySt]⟩
    rw [lySt, List.mem_singleton] at hl
    subst hl
    rw [List.mem_singleton.mp hq]
    exact start_fall n p
  | t + 1 => by
    obtain ⟨ih, hne⟩ := layers_fall (p := p) ha hn hw t
    rw [lySt]
    generalize lySt ar wrs n p t = st at ih hne
    have hits := ih _ (getLastD_mem (d := []) hne)
    generalize st.1.getLastD [] = its at *
    refine ⟨fun ly hl => ?_, by simp⟩
    rcases List.mem_append.mp hl with z | z
    · exact ih ly z
    · rw [List.mem_singleton.mp z]
      have : ∀ (st0 : Ly × Ly), (∀ q ∈ st0.2, Fall n q.1) → ∀ q ∈ (its.foldl (stepI ar wrs) st0).2, Fall n q.1 := fun st0 h0 =>
        foldl_inv (S := fun s : Ly × Ly => ∀ q ∈ s.2, Fall n q.1) its st0 h0 fun b it hit hb => foldl_inv (S := fun s : Ly × Ly => ∀ q ∈ s.2, Fall n q.1) wrs b hb fun b k hk hb => by
          unfold stepW
          split
          · exact hb
          · intro q hq
            rcases List.mem_append.mp hq with y | y
            · exact hb q y
            · rw [List.mem_singleton.mp y]
              exact even_fall (hits it hit) ha hn (hw k hk).1 (hw k hk).2
      exact this (st.2, []) (fun q hq => by cases hq)
theorem best_step_mono {x y : Rw} {s t : Rat × List Nat} {q : List Rat × List Nat} (h : s.1 ≤ t.1) (hw : worthV x q.1 ≤ worthV y q.1) : (bestStep x s q).1 ≤ (bestStep y t q).1 := by
  unfold bestStep
  split
  · split
    · exact hw
    · next c => show worthV x q.1 ≤ t.1; have := Rat.not_lt.mp c; exact Rat.le_trans hw this
  · split
    · next c d => show s.1 ≤ worthV y q.1; exact Rat.le_trans h (Rat.le_of_lt d)
    · exact h
theorem best_ly_mono {x y : Rw} : ∀ (ly : Ly) (s t : Rat × List Nat), s.1 ≤ t.1 → (∀ q ∈ ly, worthV x q.1 ≤ worthV y q.1) → (ly.foldl (bestStep x) s).1 ≤ (ly.foldl (bestStep y) t).1
  | [], s, t, h, _ => h
  | q :: ly, s, t, h, hw => best_ly_mono ly _ _ (best_step_mono h (hw q (by simp))) fun q' hq => hw q' (List.mem_cons_of_mem _ hq)
theorem best_lys_mono {x y : Rw} : ∀ (lys : List Ly) (s t : Rat × List Nat), s.1 ≤ t.1 → (∀ ly ∈ lys, ∀ q ∈ ly, worthV x q.1 ≤ worthV y q.1) → (lys.foldl (fun st ly => ly.foldl (bestStep x) st) s).1 ≤ (lys.foldl (fun st ly => ly.foldl (bestStep y) st) t).1
  | [], s, t, h, _ => h
  | ly :: lys, s, t, h, hw => best_lys_mono lys _ _ (best_ly_mono ly _ _ h (hw ly (by simp))) fun l hl => hw l (List.mem_cons_of_mem _ hl)
/-- the best amounts of a row with more water are no less -/
theorem best_mono {x y : Rw} (hx : RowOk x) (hy : RowOk y) (ea : y.ar = x.ar) (el : y.lk = x.lk) (h : Dom x.vo y.vo) (p m : Nat) : (bestOf x p m).1 ≤ (bestOf y p m).1 := by
  have ew : weirsOf y = weirsOf x := by unfold weirsOf; rw [ea, el]
  have e : layersOf y p m = layersOf x p m := by unfold layersOf; rw [ea, ew]
  unfold bestOf
  rw [e]
  refine best_lys_mono _ _ _ (h p) fun ly hl q hq => ?_
  have hf := (layers_fall (p := p) (fun a ha => (hx.ar a ha).1) rfl (fun k hk => ⟨(mem_weirs.mp hk).1, (mem_weirs.mp hk).2.1⟩) m).1 ly (List.mem_of_mem_drop hl) q hq
  exact worth_mono hf hx.len (by rw [← ea]; exact hy.len) h
/-! ### guards -/
theorem top_mono {x y : Rw} {p : Nat} {more : List Nat} (hx : RowOk x) (hy : RowOk y) (ea : y.ar = x.ar) (el : y.lk = x.lk) (hp : p ≤ x.ar.length) (h : Dom x.vo y.vo) (hm : ∀ k ∈ more, 1 ≤ k ∧ k < x.ar.length) : topV x p more ≤ topV y p more := by
  unfold topV
  refine edge_mono true (lock_ok hx hm) (lock_ok hy (by rw [ea]; exact hm)) ea ?_ hp h
  show normN (y.lk ++ more) = normN (x.lk ++ more)
  rw [el]
theorem cands_mem {ch l : List Nat} (h : l ∈ candsOf ch) : ∀ k ∈ l, k ∈ ch := by
  unfold candsOf at h
  obtain ⟨m, _, h⟩ := List.mem_flatMap.mp h
  exact (someOf_mem m ch l h).2
theorem flat_sorted (g : Nat → List (List Nat)) (hg : ∀ m, ∀ l ∈ g m, l.length = m) : ∀ n, ((List.range n).flatMap g).Pairwise fun a b => a.length ≤ b.length
  | 0 => by simp
  | n + 1 => by
    rw [range_flat_succ]
    refine List.pairwise_append.mpr ⟨flat_sorted g hg n, ?_, fun a ha b hb => ?_⟩
    · refine List.Pairwise.imp_of_mem (R := fun _ _ => True) (fun {a b} ha hb _ => ?_) (List.pairwise_of_forall fun _ _ => trivial)
      rw [hg n a ha, hg n b hb]; exact Nat.le_refl _
    · obtain ⟨m, hm, ha⟩ := List.mem_flatMap.mp ha
      have := List.mem_range.mp hm
      rw [hg m a ha, hg n b hb]; omega
theorem find_first {f g : List Nat → Bool} (hfg : ∀ l, f l = true → g l = true) : ∀ (L : List (List Nat)) (l : List Nat), L.Pairwise (fun a b => a.length ≤ b.length) → L.find? f = some l → ∃ l', L.find? g = some l' ∧ l'.length ≤ l.length
  | [], l, _, h => by cases h
  | a :: L, l, hs, h => by
    have hs' := List.pairwise_cons.mp hs
    by_cases c : g a = true
    · refine ⟨a, by rw [List.find?_cons, c], ?_⟩
      rw [List.find?_cons] at h
      cases e : f a with
      | true => rw [e] at h; cases h; exact Nat.le_refl _
      | false => rw [e] at h; exact hs'.1 l (List.mem_of_find?_eq_some h)
    · have c' : g a = false := by cases e : g a; rfl; exact absurd e c
      have c2 : f a = false := by cases e : f a; rfl; exact absurd (hfg a e) c
      rw [List.find?_cons, c2] at h
      rw [List.find?_cons, c']
      exact find_first hfg L l hs'.2 h
theorem find_first_on {f g : List Nat → Bool} : ∀ (L : List (List Nat)) (l : List Nat), (∀ l ∈ L, f l = true → g l = true) → L.Pairwise (fun a b => a.length ≤ b.length) → L.find? f = some l → ∃ l', L.find? g = some l' ∧ l'.length ≤ l.length
  | [], l, _, _, h => by cases h
  | a :: L, l, hfg, hs, h => by
    have hs' := List.pairwise_cons.mp hs
    by_cases c : g a = true
    · refine ⟨a, by rw [List.find?_cons, c], ?_⟩
      rw [List.find?_cons] at h
      cases e : f a with
      | true => rw [e] at h; cases h; exact Nat.le_refl _
      | false => rw [e] at h; exact hs'.1 l (List.mem_of_find?_eq_some h)
    · have c' : g a = false := by cases e : g a; rfl; exact absurd e c
      have c2 : f a = false := by cases e : f a; rfl; exact absurd (hfg a (by simp) e) c
      rw [List.find?_cons, c2] at h
      rw [List.find?_cons, c']
      exact find_first_on L l (fun l hl => hfg l (List.mem_cons_of_mem _ hl)) hs'.2 h
/-- where locks do for a row with more water, as few do for the one with less -/
theorem guard_mono {x y : Rw} {ch : List Nat} {p : Nat} {m : Rat} {l : List Nat} (hx : RowOk x) (hy : RowOk y) (ea : y.ar = x.ar) (el : y.lk = x.lk) (hp : p ≤ x.ar.length) (h : Dom x.vo y.vo) (hc : ∀ k ∈ ch, 1 ≤ k ∧ k < x.ar.length) (hg : guardOf y ch p m = some l) : ∃ l', guardOf x ch p m = some l' ∧ l'.length ≤ l.length := by
  refine find_first_on (candsOf ch) l (fun l hl hf => ?_) (flat_sorted _ (fun m l hl => (someOf_mem m ch l hl).1) _) hg
  unfold holdsB at hf ⊢
  have hm := top_mono hx hy ea el hp h fun k hk => hc k (cands_mem hl k hk)
  have c : ¬ m < topV y p l := by simpa using hf
  have : ¬ m < topV x p l := fun z => c (by grind)
  simpa using this
end WL
set_option Elab.async false
set_option linter.all false
set_option maxRecDepth 100000
set_option maxHeartbeats 4000000
namespace WL
open PySem PySem.Spec PyProof.Rows L2
structure Cst where
  r : Rw
  lf : Option Rat
  rt : Option Rat
def optD : Option Rat → D
  | none => .non
  | some q => qd q
def coastD (K : PySem.W.Frag) (c : Cst) : D := .ins (cA K "Coast") ["row", "left", "right"] [rowD K c.r, optD c.lf, optD c.rt]
/-- a height: a half at most as the denominator, eight at most -/
def HtOk (h : Option Rat) : Prop := ∀ q, h = some q → 0 ≤ q ∧ Bd 2 8 q
structure CoOk (c : Cst) : Prop where
  ok : RowOk c.r
  n7 : c.r.ar.length ≤ 7
  a4 : ∀ a ∈ c.r.ar, a ≤ 4
  lk : c.r.lk = []
  l : HtOk c.lf
  r : HtOk c.rt
/-- the weirs of a coast -/
def InC (c : Cst) (k : Nat) : Prop := (k = 0 ∧ c.lf.isSome = true) ∨ (k = c.r.ar.length ∧ c.rt.isSome = true) ∨ (1 ≤ k ∧ k < c.r.ar.length)
def copenV (c : Cst) (k : Nat) : List Rat :=
  if k = 0 then c.r.vo.set 0 (c.lf.getD 0 * ((c.r.ar.getD 0 0 : Nat) : Rat))
  else if k = c.r.ar.length then c.r.vo.set (c.r.ar.length - 1) (c.rt.getD 0 * ((c.r.ar.getD (c.r.ar.length - 1) 0 : Nat) : Rat))
  else openV c.r.ar c.r.vo k 1
def withV (c : Cst) (v : List Rat) : Cst := { c with r := { c.r with vo := v } }
def copen (c : Cst) (k : Nat) : Cst := withV c (copenV c k)
/-- numbers with an even common denominator -/
def CSz (D M : Nat) (vo : List Rat) : Prop := ∃ D' M', 0 < D' ∧ 2 ∣ D' ∧ D' ≤ D ∧ M' ≤ M ∧ 32 ≤ M' ∧ ∀ q ∈ vo, Bd D' M' q
theorem CSz.r {D M : Nat} {vo : List Rat} (h : CSz D M vo) : SzR D M vo := by
  obtain ⟨D', M', h0, _, h2, h3, _, h5⟩ := h
  exact ⟨D', M', h0, h2, h3, h5⟩
theorem CSz.mono {D M D2 M2 : Nat} {vo : List Rat} (h : CSz D M vo) (hD : D ≤ D2) (hM : M ≤ M2) : CSz D2 M2 vo := by
  obtain ⟨D', M', h0, h1, h2, h3, h4, h5⟩ := h
  exact ⟨D', M', h0, h1, Nat.le_trans h2 hD, Nat.le_trans h3 hM, h4, h5⟩
theorem weirs_all {x : Rw} (h : x.lk = []) {k : Nat} (k1 : 1 ≤ k) (k2 : k < x.ar.length) : k ∈ weirsOf x := mem_weirs.mpr ⟨k1, k2, by rw [h]; simp⟩
theorem ht_prod {h : Option Rat} (hh : HtOk h) (hs : h.isSome = true) {a : Nat} (ha : a ≤ 4) : 0 ≤ h.getD 0 * ((a : Nat) : Rat) ∧ Bd 2 32 (h.getD 0 * ((a : Nat) : Rat)) ∧ Sm (h.getD 0) ∧ Sm (((a : Nat) : Int) : Rat) := by
  cases h with
  | none => cases hs
  | some q =>
    obtain ⟨h0, h1⟩ := hh q rfl
    have b : Bd 1 4 (((a : Nat) : Int) : Rat) := bd_int (by omega)
    have := h1.mul b
    refine ⟨Rat.mul_nonneg h0 Rat.natCast_nonneg, this, h1.sm (by decide) (Nat.lt_of_lt_of_le (show 2 < 2 ^ 2 by decide) (Nat.pow_le_pow_right (by decide) (by decide))) (Nat.lt_of_lt_of_le (show 8 * 2 < 2 ^ 5 by decide) (Nat.pow_le_pow_right (by decide) (by decide))), b.sm (by decide) (Nat.one_lt_two_pow (by decide)) (Nat.lt_of_lt_of_le (show 4 * 1 < 2 ^ 3 by decide) (Nat.pow_le_pow_right (by decide) (by decide)))⟩
theorem mem_set {α : Type} {xs : List α} {i : Nat} {v y : α} (h : y ∈ xs.set i v) : y ∈ xs ∨ y = v := by
  rcases List.mem_or_eq_of_mem_set h with q | q
  · exact .inl q
  · exact .inr q
/-- behind an opening a coast is a coast still -/
theorem copen_ok {c : Cst} {k : Nat} {D M : Nat} (hc : CoOk c) (hk : InC c k) (hs : CSz D M c.r.vo) (hd : D * 2000 < 2 ^ 4400) (hm : M * 6 * (D * 2000) < 2 ^ 400000) :
    CoOk (copen c k) ∧ CSz (if 1 ≤ k ∧ k < c.r.ar.length then D * 8 else D) (M * 6) (copenV c k) ∧ (∀ q ∈ copenV c k, Sm q) ∧ (1 ≤ k → k < c.r.ar.length → ∃ D' M', OpSz c.r.vo 1 D' M' 1) := by
  have hD : D < 2 ^ 4400 := Nat.lt_of_le_of_lt (Nat.le_mul_of_pos_right D (by decide)) hd
  have hl := hc.ok.len
  have hp := hc.ok.pos
  obtain ⟨D', M', h0, h1, h2, h3, h4, h5⟩ := id hs
  have hsm : ∀ {q E}, Bd E (M' * 6) q → 0 < E → E ≤ D * 2000 → Sm q := fun hb e0 e1 => hb.sm e0 (Nat.lt_of_le_of_lt e1 hd) (Nat.lt_of_le_of_lt (Nat.mul_le_mul (Nat.mul_le_mul_right 6 h3) e1) hm)
  have hDle : D' ≤ D * 2000 := Nat.le_trans h2 (Nat.le_mul_of_pos_right D (by decide))
  have setok : ∀ (i : Nat) (v : Rat), 0 ≤ v → Bd 2 32 v → CoOk (withV c (c.r.vo.set i v)) ∧ CSz D (M * 6) (c.r.vo.set i v) ∧ ∀ q ∈ c.r.vo.set i v, Sm q := fun i v v0 vb => by
    obtain ⟨e, he⟩ := h1
    have vb' : Bd D' (M' * 6) v := by
      rw [he]
      exact (vb.wide (E := e)).mono (by omega)
    have mem : ∀ q ∈ c.r.vo.set i v, Bd D' (M' * 6) q := fun q hq => by
      rcases mem_set hq with z | z
      · exact (h5 q z).mono (by omega)
      · rw [z]; exact vb'
    refine ⟨⟨⟨hp, hc.ok.most, hc.ok.ar, by show (c.r.vo.set i v).length = _; rw [List.length_set]; exact hl, fun q hq => ?_, hc.ok.srt, hc.ok.lk⟩, hc.n7, hc.a4, hc.lk, hc.l, hc.r⟩, ⟨D', M' * 6, h0, ⟨e, he⟩, h2, Nat.mul_le_mul_right 6 h3, by omega, mem⟩, fun q hq => hsm (mem q hq) h0 hDle⟩
    rcases mem_set hq with z | z
    · exact hc.ok.nn q z
    · rw [z]; exact v0
  by_cases k0 : k = 0
  · subst k0
    have hsome : c.lf.isSome = true := by
      rcases hk with z | z | z
      · exact z.2
      · omega
      · omega
    have ha := hc.a4 _ (getD_mem (xs := c.r.ar) (i := 0) (d := 0) (by omega))
    obtain ⟨p1, p2, _, _⟩ := ht_prod hc.l hsome ha
    have e : copenV c 0 = c.r.vo.set 0 (c.lf.getD 0 * ((c.r.ar.getD 0 0 : Nat) : Rat)) := by unfold copenV; rw [if_pos rfl]
    unfold copen
    rw [e, if_neg (by omega)]
    obtain ⟨q1, q2, q3⟩ := setok 0 _ p1 p2
    exact ⟨q1, q2, q3, fun z => by omega⟩
  · by_cases kn : k = c.r.ar.length
    · have hsome : c.rt.isSome = true := by
        rcases hk with z | z | z
        · exact absurd z.1 k0
        · exact z.2
        · omega
      have ha := hc.a4 _ (getD_mem (xs := c.r.ar) (i := c.r.ar.length - 1) (d := 0) (by omega))
      obtain ⟨p1, p2, _, _⟩ := ht_prod hc.r hsome ha
      have e : copenV c k = c.r.vo.set (c.r.ar.length - 1) (c.rt.getD 0 * ((c.r.ar.getD (c.r.ar.length - 1) 0 : Nat) : Rat)) := by unfold copenV; rw [if_neg k0, if_pos kn]
      unfold copen
      rw [e, if_neg (by omega)]
      obtain ⟨q1, q2, q3⟩ := setok (c.r.ar.length - 1) _ p1 p2
      exact ⟨q1, q2, q3, fun _ z => by omega⟩
    · have k1 : 1 ≤ k ∧ k < c.r.ar.length := by
        rcases hk with z | z | z
        · exact absurd z.1 k0
        · exact absurd z.1 kn
        · exact z
      have e : copenV c k = openV c.r.ar c.r.vo k 1 := by unfold copenV; rw [if_neg k0, if_neg kn]
      unfold copen
      rw [e, if_pos k1]
      have op : OpSz c.r.vo 1 D' M' 1 := ⟨h5, bd_one, h0, by decide, by rw [Nat.mul_one]; exact Nat.lt_of_le_of_lt (Nat.mul_le_mul_right 2000 h2) hd, by rw [Nat.mul_one]; exact Nat.lt_of_le_of_lt (Nat.mul_le_mul (Nat.mul_le_mul_right 6 h3) (Nat.mul_le_mul_right 2000 h2)) hm⟩
      obtain ⟨a1, a2, a3⟩ := open_ok hc.ok (weirs_all hc.lk k1.1 k1.2) (show (0 : Rat) ≤ 1 by decide) (show (1 : Rat) ≤ 1 by decide) op
      have m1 := hc.a4 _ (getD_mem (xs := c.r.ar) (i := k - 1) (d := 0) (by omega))
      have m2 := hc.a4 _ (getD_mem (xs := c.r.ar) (i := k) (d := 0) (by omega))
      have m3 := (hc.ok.ar _ (getD_mem (xs := c.r.ar) (i := k) (d := 0) (by omega))).1
      rw [Nat.mul_one] at a2
      refine ⟨⟨a1, hc.n7, hc.a4, hc.lk, hc.l, hc.r⟩, ⟨_, M' * 6, Nat.mul_pos h0 (by omega), ?_, ?_, Nat.mul_le_mul_right 6 h3, by omega, a2⟩, a3, fun _ _ => ⟨D', M', op⟩⟩
      · exact Nat.dvd_trans h1 (Nat.dvd_mul_right _ _)
      · exact Nat.mul_le_mul h2 (by omega)
/-- a height, as it is handed in -/
def OptP (d : D) (h : Option Rat) : Prop := (d = .non ∧ h = none) ∨ ∃ q, h = some q ∧ PartD d q
section
variable {P : Program} {w : World} {K : PySem.W.Frag} {mg : Str → Option Value} {base : Heap}
theorem optP_optD {h : Option Rat} (hh : HtOk h) : OptP (optD h) h := by
  cases h with
  | none => exact .inl ⟨rfl, rfl⟩
  | some q =>
    refine .inr ⟨q, rfl, partD_qd ?_⟩
    have := (hh q rfl).2.den (by decide)
    exact Nat.lt_of_le_of_lt this (Nat.lt_of_lt_of_le (show 2 < 2 ^ 2 by decide) (Nat.pow_le_pow_right (by decide) (by decide)))
theorem partD_nn {d : D} {q : Rat} (h : PartD d q) : isNon d = false := by cases h <;> rfl
def RCoastI (K : PySem.W.Frag) (C : Addr) (o : O) (ds : List D) (o' : O) (r : D) : Prop := ∃ dx x dl dr lf rt, o = .ins C dx [] [] ∧ ds = [rowD K x, dl, dr] ∧ x.lk = [] ∧ OptP dl lf ∧ OptP dr rt ∧ HtOk lf ∧ HtOk rt ∧ o' = .ins C dx ["row", "left", "right"] [rowD K x, optD lf, optD rt] ∧ r = .non
abbrev C_Coast3 (P : Program) (w : World) (K : PySem.W.Frag) (mg : Str → Option Value) (base : Heap) : Prop := Mc P w K mg base "Coast" (cA K "Coast") ["self", "row", "left", "right"] 4 (SpO ⟨P, w, K⟩ (RCoastI K (cA K "Coast"))) []
abbrev C_Coast2 (P : Program) (w : World) (K : PySem.W.Frag) (mg : Str → Option Value) (base : Heap) : Prop := Mc P w K mg base "Coast" (cA K "Coast") ["self", "row", "left", "right"] 4 (SpO ⟨P, w, K⟩ (RCoastI K (cA K "Coast"))) [.non]
theorem sc_Coast___init__ : FnScope ["self", "row", "left", "right", "height"] ["self", "row", "left", "right"] (defScope s_Coast___init__) := ⟨rfl, rfl, rfl, by decide +kernel, rfl, by decide +kernel, by decide +kernel⟩
theorem ok_Coast (T : Tx K mg) {f : Addr} {fd : FuncData} {dvs : List V} (F : FunD K "__init__" "Coast.__init__" (defArgs s_Coast___init__) (defBody s_Coast___init__) (defScope s_Coast___init__) dvs [] f fd) (Fcheck_row : C_check_row P w K mg base) (Fis_part : C_is_part P w K mg base) (Fas_part : C_as_part P w K mg base) :
    FnOk P w K mg base CX0 4 f fd ["self", "row", "left", "right"] (SpO ⟨P, w, K⟩ (RCoastI K (cA K "Coast"))) := by
  have sc := sc_Coast___init__
  refine fn_own F sc (by rintro o ds o' r ⟨_, _, _, _, _, _, _, rfl, _⟩; rfl) (by decide) fun cdv A outer s H l o ds o' r hr hR => ?_
  obtain ⟨dx, x, dl, dr, lf, rt, rfl, rfl, hlk, hl, hrr, hlf, hrt, rfl, rfl⟩ := hR
  refine sds_cons (sd_expr (pd_call (r := .non) Fcheck_row (hr.mono (by decide)) dfl_nil (pad_cons (pd_var 1 rfl) pad_nil) ⟨x, rfl, rfl⟩) ?_)
  refine sds_cons (sd_ifF (v := !true) (pt_neD (x := .tup (x.lk.map nD)) (y := .tup []) hr.units (pd_fld (pd_var 1 rfl) T.clRow T.noRow_locks rfl) (pd_tup pad_nil (lenOk rfl)) (by rw [hlk]; rfl) rfl (by rw [hlk]; decide +kernel) (by decide +kernel) (by rw [hlk]; rfl)) rfl (sds_nil ?_))
  refine sds_cons (sd_for (fun k ρ => ∃ e, ρ = [.own l (.ins (cA K "Coast") dx [] []), .d (rowD K x), .d dl, .d dr, e]) (src_tup (pd_tup (pad_cons (pd_var 2 rfl) (pad_cons (pd_var 3 rfl) pad_nil)) (lenOk rfl))) ⟨_, rfl⟩ (fun k d ρ hd hI => ?_) (fun ρ hI => ?_))
  · obtain ⟨e, rfl⟩ := hI
    have hd' : ∃ h, OptP d h ∧ HtOk h := by
      match k, hd with
      | 0, hd => cases hd; exact ⟨lf, hl, hlf⟩
      | 1, hd => cases hd; exact ⟨rt, hrr, hrt⟩
    obtain ⟨h, hd1, hd2⟩ := hd'
    refine ⟨_, _, (gd_name 4 sc.nd), ?_⟩
    rcases hd1 with ⟨rfl, rfl⟩ | ⟨q, rfl, hq⟩
    · exact sds_one (sd_ifF (v := false && false) (pt_and2 (p := false) (PTD.is (pt_notN (pd_var 4 rfl)) rfl) (fun z => absurd z Bool.false_ne_true)) rfl (sds_nil ⟨_, rfl⟩))
    · refine sds_one (sd_ifF (v := true && (!true || false)) (pt_and2 (p := true) (PTD.is (pt_notN (pd_var 4 rfl)) (by rw [partD_nn hq]; rfl)) (fun _ => (pt_or2 (pt_not (PD.t (pd_call Fis_part (hr.mono (by decide)) dfl_nil (pad_cons (pd_var 4 rfl) pad_nil) ⟨_, q, rfl, hq, rfl⟩))) (fun _ => PTD.is (pt_lt (pd_at (d := .int q.num) (pd_call (r := qd q) Fas_part (hr.mono (by decide)) dfl_nil (pad_cons (pd_var 4 rfl) pad_nil) ⟨_, q, rfl, hq, rfl⟩) pd_int rfl) pd_int) ?_)))) rfl (sds_nil ⟨_, rfl⟩))
      have := Rat.num_nonneg.mpr (hd2 q rfl).1
      exact decide_eq_false (by omega)
  · obtain ⟨e, rfl⟩ := hI
    refine sds_cons (sd_fld 0 rfl (pd_var 1 rfl) rfl (by decide) (by decide) T.clCoast T.noCoast_row ?_)
    have one : ∀ (n : Nat) (d : D) (h : Option Rat), OptP d h → isNon d = h.isNone := fun n d h hp => by
      rcases hp with ⟨rfl, rfl⟩ | ⟨q, rfl, hq⟩
      · rfl
      · rw [partD_nn hq]; rfl
    refine sds_cons (sd_fld (d := optD lf) 0 rfl (pd_ifexp (pt_isN (pd_var 2 rfl)) (fun hc => PD.is pd_non ?_) (fun hc => ?_)) rfl (by decide) (by decide) T.clCoast T.noCoast_left ?_)
    · rcases hl with ⟨rfl, rfl⟩ | ⟨q, rfl, hq⟩
      · rfl
      · rw [partD_nn hq] at hc; cases hc
    · rcases hl with ⟨rfl, rfl⟩ | ⟨q, rfl, hq⟩
      · cases hc
      · exact pd_call Fas_part (hr.mono (by decide)) dfl_nil (pad_cons (pd_var 2 rfl) pad_nil) ⟨_, q, rfl, hq, rfl⟩
    refine sds_one (sd_fld (d := optD rt) 0 rfl (pd_ifexp (pt_isN (pd_var 3 rfl)) (fun hc => PD.is pd_non ?_) (fun hc => ?_)) rfl (by decide) (by decide) T.clCoast T.noCoast_right ⟨rfl, rfl⟩)
    · rcases hrr with ⟨rfl, rfl⟩ | ⟨q, rfl, hq⟩
      · rfl
      · rw [partD_nn hq] at hc; cases hc
    · rcases hrr with ⟨rfl, rfl⟩ | ⟨q, rfl, hq⟩
      · cases hc
      · exact pd_call Fas_part (hr.mono (by decide)) dfl_nil (pad_cons (pd_var 3 rfl) pad_nil) ⟨_, q, rfl, hq, rfl⟩
theorem mc_Coast3 (T : Tx K mg) (F : Cdf K mg "Coast" "Coast.__init__" s_Coast___init__ [.non, .non]) (Fcheck_row : C_check_row P w K mg base) (Fis_part : C_is_part P w K mg base) (Fas_part : C_as_part P w K mg base) : C_Coast3 P w K mg base :=
  F.mcd 4 2 (by simp) rfl (fun _ _ _ _ _ _ _ us its h1 h2 => match us, its, h1, h2 with | [_, _, _, _], [_, _], _, _ => ⟨_, rfl, rfl⟩) fun f fd F => ok_Coast T F Fcheck_row Fis_part Fas_part
theorem mc_Coast2 (T : Tx K mg) (F : Cdf K mg "Coast" "Coast.__init__" s_Coast___init__ [.non, .non]) (Fcheck_row : C_check_row P w K mg base) (Fis_part : C_is_part P w K mg base) (Fas_part : C_as_part P w K mg base) : C_Coast2 P w K mg base :=
  F.mcd 3 1 (by simp) rfl (fun _ _ _ _ _ _ _ us its h1 h2 => match us, its, h1, h2 with | [_, _, _], [_, _], _, _ => ⟨_, rfl, rfl⟩) fun f fd F => ok_Coast T F Fcheck_row Fis_part Fas_part
theorem dfl_non {B : Bs} : Dfl B [.non] [.non] := fun _ => .cons rep_non .nil
end
end WL
set_option Elab.async false
set_option linter.all false
set_option maxRecDepth 100000
set_option maxHeartbeats 4000000
namespace WL
open PySem PySem.Spec PyProof.Rows L2
def afterC (c : Cst) (o : List Nat) : Cst := o.foldl copen c
def cntI (n : Nat) (o : List Nat) : Nat := (o.filter fun k => decide (1 ≤ k) && decide (k < n)).length
theorem copen_same (c : Cst) (k : Nat) : (copen c k).r.ar = c.r.ar ∧ (copen c k).lf = c.lf ∧ (copen c k).rt = c.rt ∧ (copen c k).r.lk = c.r.lk := ⟨rfl, rfl, rfl, rfl⟩
theorem after_same : ∀ (o : List Nat) (c : Cst), (afterC c o).r.ar = c.r.ar ∧ (afterC c o).lf = c.lf ∧ (afterC c o).rt = c.rt ∧ (afterC c o).r.lk = c.r.lk
  | [], c => ⟨rfl, rfl, rfl, rfl⟩
  | k :: o, c => by
    obtain ⟨a, b, d, e⟩ := after_same o (copen c k)
    exact ⟨a, b, d, e⟩
theorem inC_after {c : Cst} {o : List Nat} {k : Nat} (h : InC c k) : InC (afterC c o) k := by
  obtain ⟨a, b, d, e⟩ := after_same o c
  unfold InC
  rw [a, b, d]
  exact h
theorem cnt_succ {n : Nat} {o : List Nat} {k : Nat} {x : Nat} (h : o[k]? = some x) : cntI n (o.take (k + 1)) = cntI n (o.take k) + (if 1 ≤ x ∧ x < n then 1 else 0) := by
  unfold cntI
  rw [List.take_add_one, h, List.filter_append, List.length_append]
  congr 1
  show (List.filter _ [x]).length = _
  by_cases h1 : 1 ≤ x <;> by_cases h2 : x < n <;> simp [h1, h2]
structure AftOk (c : Cst) (o : List Nat) (D M : Nat) : Prop where
  ok : CoOk c
  w : ∀ k ∈ o, InC c k
  len : o.length ≤ 15
  sz : CSz D M c.r.vo
  hD : D < 2 ^ 4300
  hM : M < 2 ^ 300000
theorem aft_room {D M j k : Nat} (hD : D < 2 ^ 4300) (hM : M < 2 ^ 300000) (hj : j ≤ 15) (hk : k ≤ 15) : D * 8 ^ j * 2000 < 2 ^ 4400 ∧ M * 6 ^ k * 6 * (D * 8 ^ j * 2000) < 2 ^ 400000 := by
  have a1 : 8 ^ j < 2 ^ 46 := Nat.lt_of_le_of_lt (Nat.pow_le_pow_right (by decide) hj) (by decide)
  have a2 : 6 ^ k * 6 < 2 ^ 46 := Nat.lt_of_le_of_lt (Nat.mul_le_mul_right 6 (Nat.pow_le_pow_right (by decide) hk)) (by decide)
  have b1 := mul_lt_pow (mul_lt_pow hD a1) (show 2000 < 2 ^ 11 by decide)
  have b2 := mul_lt_pow hM a2
  rw [← Nat.mul_assoc] at b2
  have b3 := mul_lt_pow b2 b1
  exact ⟨Nat.lt_of_lt_of_le b1 (Nat.pow_le_pow_right (by decide) (by omega)), Nat.lt_of_lt_of_le b3 (Nat.pow_le_pow_right (by decide) (by omega))⟩
theorem aft_step {c : Cst} {o : List Nat} {D M : Nat} (h : AftOk c o D M) : ∀ k, k ≤ o.length → CoOk (afterC c (o.take k)) ∧ CSz (D * 8 ^ cntI c.r.ar.length (o.take k)) (M * 6 ^ k) (afterC c (o.take k)).r.vo := fun k => by
  induction k with
  | zero => intro _; rw [List.take_zero]; refine ⟨h.ok, ?_⟩; show CSz (D * 8 ^ 0) (M * 6 ^ 0) _; simp only [Nat.pow_zero, Nat.mul_one]; exact h.sz
  | succ k ih =>
    intro hk
    obtain ⟨h1, h2⟩ := ih (by omega)
    have e := List.getElem?_eq_getElem (show k < o.length by omega)
    have hv : afterC c (o.take (k + 1)) = copen (afterC c (o.take k)) o[k] := foldl_take_succ _ _ e
    have hlen := h.len
    have hcnt : cntI c.r.ar.length (o.take k) ≤ 15 := by
      unfold cntI
      refine Nat.le_trans (List.length_filter_le _ _) ?_
      rw [List.length_take]; omega
    obtain ⟨r1, r2⟩ := aft_room h.hD h.hM hcnt (show k ≤ 15 by omega)
    have hin : InC (afterC c (o.take k)) o[k] := inC_after (h.w _ (List.getElem_mem _))
    obtain ⟨q1, q2, _, _⟩ := copen_ok h1 hin h2 r1 r2
    rw [hv]
    refine ⟨q1, ?_⟩
    show CSz _ _ (copenV (afterC c (o.take k)) o[k])
    rw [(after_same (o.take k) c).1] at q2
    refine q2.mono ?_ ?_
    · rw [cnt_succ e]
      split
      · rw [Nat.pow_add, Nat.pow_one, Nat.mul_assoc]; exact Nat.le_refl _
      · exact Nat.le_refl _
    · rw [Nat.pow_succ, Nat.mul_assoc]; exact Nat.le_refl _
theorem aft_open {c : Cst} {o : List Nat} {D M : Nat} (h : AftOk c o D M) {k : Nat} (hk : k < o.length) : CoOk (afterC c (o.take k)) ∧ InC (afterC c (o.take k)) o[k] ∧ ∃ D' M', CSz D' M' (afterC c (o.take k)).r.vo ∧ D' * 2000 < 2 ^ 4400 ∧ M' * 6 * (D' * 2000) < 2 ^ 400000 := by
  obtain ⟨h1, h2⟩ := aft_step h k (by omega)
  have hlen := h.len
  have hcnt : cntI c.r.ar.length (o.take k) ≤ 15 := by
    unfold cntI
    refine Nat.le_trans (List.length_filter_le _ _) ?_
    rw [List.length_take]; omega
  obtain ⟨r1, r2⟩ := aft_room h.hD h.hM hcnt (show k ≤ 15 by omega)
  exact ⟨h1, inC_after (h.w _ (List.getElem_mem _)), _, _, h2, r1, r2⟩
section
variable {P : Program} {w : World} {K : PySem.W.Frag} {mg : Str → Option Value} {base : Heap}
/-! ### in a coast, opened -/
def RCoIn (K : PySem.W.Frag) (ds : List D) (r : D) : Prop := ∃ (c : Cst) (k : Nat), ds = [coastD K c, nD k] ∧ InC c k ∧ c.r.lk = [] ∧ c.r.ar.length ≤ 24 ∧ 1 ≤ c.r.ar.length ∧ r = .bl true
abbrev M_cin (P : Program) (w : World) (K : PySem.W.Frag) (mg : Str → Option Value) (base : Heap) : Prop := Me P w K mg base (cA K "Coast") "__contains__" ["self", "weir"] 3 (SpP ⟨P, w, K⟩ (RCoIn K)) []
theorem isNon_opt {h : Option Rat} (hs : h.isSome = true) : isNon (optD h) = false := by
  cases h with
  | none => cases hs
  | some q => rfl
theorem sc_Coast___contains__ : FnScope ["self", "weir"] ["self", "weir"] (defScope s_Coast___contains__) := ⟨rfl, rfl, rfl, by decide +kernel, rfl, by decide +kernel, by decide +kernel⟩
theorem me_cin (T : Tx K mg) (F : Mdf K (cA K "Coast") "__contains__" "Coast.__contains__" s_Coast___contains__ []) (Mlen : M_len P w K mg base) (Min : M_in P w K mg base) : M_cin P w K mg base := by
  have sc := sc_Coast___contains__
  refine F.me T.clCoast (fun _ _ _ _ _ _ us hl => match us, hl with | [_, _], _ => rfl) fun f fd F => ?_
  refine fn_pure F sc (by rintro ds r ⟨_, _, rfl, _⟩; rfl) (by decide) fun cdv A outer s H ds r hr hR => ?_
  obtain ⟨c, k, rfl, hk, hlk, h24, hpos, rfl⟩ := hR
  by_cases k0 : k = 0
  · subst k0
    have hs : c.lf.isSome = true := by
      rcases hk with z | z | z
      · exact z.2
      · omega
      · omega
    refine sds_cons (sd_ifT (v := decide (((0 : Nat) : Int) = 0)) (pt_eq (pd_var 1 rfl) pd_int) rfl ?_)
    exact sds_one (sd_ret (pd_notN (pd_fld (pd_var 0 rfl) T.clCoast T.noCoast_left rfl)) (by rw [isNon_opt hs]; rfl))
  · refine sds_cons (sd_ifF (pt_eq (pd_var 1 rfl) pd_int) (decide_eq_false (by omega)) (sds_nil ?_))
    by_cases kn : k = c.r.ar.length
    · have hs : c.rt.isSome = true := by
        rcases hk with z | z | z
        · exact absurd z.1 k0
        · exact z.2
        · omega
      refine sds_cons (sd_ifT (pt_eq (pd_var 1 rfl) (pd_lenC (i := (c.r.ar.length : Nat)) Mlen T.len (hr.mono (by decide)) (pd_fld (d := rowD K c.r) (pd_var 0 rfl) T.clCoast T.noCoast_row rfl) ⟨c.r, rfl, rfl⟩ (by omega))) (decide_eq_true (by omega)) ?_)
      exact sds_one (sd_ret (pd_notN (pd_fld (pd_var 0 rfl) T.clCoast T.noCoast_right rfl)) (by rw [isNon_opt hs]; rfl))
    · have k1 : 1 ≤ k ∧ k < c.r.ar.length := by
        rcases hk with z | z | z
        · exact absurd z.1 k0
        · exact absurd z.1 kn
        · exact z
      refine sds_cons (sd_ifF (pt_eq (pd_var 1 rfl) (pd_lenC (i := (c.r.ar.length : Nat)) Mlen T.len (hr.mono (by decide)) (pd_fld (d := rowD K c.r) (pd_var 0 rfl) T.clCoast T.noCoast_row rfl) ⟨c.r, rfl, rfl⟩ (by omega))) (decide_eq_false (by omega)) (sds_nil ?_))
      exact sds_one (sd_ret (pd_inC Min (hr.mono (by decide)) (pd_var 1 rfl) (pd_fld (d := rowD K c.r) (pd_var 0 rfl) T.clCoast T.noCoast_row rfl) ⟨c.r, k, rfl, weirs_all hlk k1.1 k1.2, rfl⟩) rfl)
def RCoOpened (K : PySem.W.Frag) (ds : List D) (r : D) : Prop := ∃ (c : Cst) (k D' M' : Nat), ds = [coastD K c, nD k] ∧ CoOk c ∧ InC c k ∧ CSz D' M' c.r.vo ∧ D' * 2000 < 2 ^ 4400 ∧ M' * 6 * (D' * 2000) < 2 ^ 400000 ∧ r = coastD K (copen c k)
abbrev M_copened (P : Program) (w : World) (K : PySem.W.Frag) (mg : Str → Option Value) (base : Heap) : Prop := Me P w K mg base (cA K "Coast") "opened" ["self", "weir"] 8 (SpP ⟨P, w, K⟩ (RCoOpened K)) []
theorem sc_Coast_opened : FnScope ["self", "weir", "volumes"] ["self", "weir"] (defScope s_Coast_opened) := ⟨rfl, rfl, rfl, by decide +kernel, rfl, by decide +kernel, by decide +kernel⟩
theorem map_set_qd (xs : List Rat) (i : Nat) (v : Rat) : (xs.set i v).map qd = (xs.map qd).set i (qd v) := by rw [List.map_set]
theorem me_copened (T : Tx K mg) (F : Mdf K (cA K "Coast") "opened" "Coast.opened" s_Coast_opened []) {dv : V} (hdv : Dfl ⟨P, w, K⟩ [qd 1] [dv]) (Mlen : M_len P w K mg base) (Fpart : C_part1 P w K mg base) (Ftimes : C_times P w K mg base) (Mop : M_opened2 P w K mg base dv) (Fwith : M_with_volumes P w K mg base) (FCoast : C_Coast3 P w K mg base) : M_copened P w K mg base := by
  have sc := sc_Coast_opened
  refine F.me T.clCoast (fun _ _ _ _ _ _ us hl => match us, hl with | [_, _], _ => rfl) fun f fd F => ?_
  refine fn_pure F sc (by rintro ds r ⟨_, _, _, _, rfl, _⟩; rfl) (by decide) fun cdv A outer s H ds r hr hR => ?_
  obtain ⟨c, k, D', M', rfl, hc, hk, hs, hd, hm, rfl⟩ := hR
  obtain ⟨q1, q2, q3, q4⟩ := copen_ok hc hk hs hd hm
  have hl := hc.ok.len
  have hpos := hc.ok.pos
  have h7 := hc.n7
  refine sds_cons (sd_asgL 2 (pl_list T.list (pd_fld (pd_fld (d := rowD K c.r) (pd_var 0 rfl) T.clCoast T.noCoast_row rfl) T.clRow T.noRow_volumes rfl) rfl) (fun l => ?_) sc.nd)
  have hwith : ∀ v : List Rat, copenV c k = v → RWithV K (rowD K c.r :: ([D.lst (v.map qd)] ++ [])) (rowD K (copen c k).r) := fun v hv => by
    refine ⟨c.r, _, v.map qd, copenV c k, rfl, hc.ok, rfl, by rw [hv]; exact partDs_qd (by rw [← hv]; exact q3), ?_, q1.ok.nn, rfl⟩
    exact q1.ok.len
  have hinit : ∀ dx, RCoastI K (cA K "Coast") (.ins (cA K "Coast") dx [] []) ([rowD K (copen c k).r, optD c.lf, optD c.rt] ++ []) (.ins (cA K "Coast") dx ["row", "left", "right"] [rowD K (copen c k).r, optD c.lf, optD c.rt]) .non := fun dx =>
    ⟨dx, (copen c k).r, _, _, c.lf, c.rt, rfl, rfl, hc.lk, optP_optD hc.l, optP_optD hc.r, hc.l, hc.r, rfl, rfl⟩
  by_cases k0 : k = 0
  · have hsm : c.lf.isSome = true := by
      rcases hk with z | z | z
      · exact z.2
      · omega
      · omega
    have ha := hc.a4 _ (getD_mem (xs := c.r.ar) (i := 0) (d := 0) (by omega))
    obtain ⟨p1, p2, p3, p4⟩ := ht_prod hc.l hsm ha
    have ev : copenV c k = c.r.vo.set 0 (c.lf.getD 0 * ((c.r.ar.getD 0 0 : Nat) : Rat)) := by unfold copenV; rw [if_pos k0]
    have eo : optD c.lf = qd (c.lf.getD 0) := by
      cases h : c.lf with
      | none => rw [h] at hsm; cases hsm
      | some q => rfl
    have g0 : atI (c.r.ar.map nD) 0 = some (nD (c.r.ar.getD 0 0)) := atI_map (atI_n (j := 0) (getD_some (by omega)))
    subst k0
    refine sds_cons (sd_ifT (v := decide (((0 : Nat) : Int) = 0)) (pt_eq (pd_var 1 rfl) pd_int) rfl ?_)
    refine sds_one (sd_asgG (d := qd (c.lf.getD 0 * ((c.r.ar.getD 0 0 : Nat) : Rat))) (pd_call Ftimes (hr.mono (by decide)) dfl_nil (pad_cons (pd_fld (d := optD c.lf) (pd_var 0 rfl) T.clCoast T.noCoast_left rfl) (pad_cons (pd_call (r := qd (((c.r.ar.getD 0 0 : Nat) : Int) : Rat)) Fpart (hr.mono (by decide)) dfl_one (pad_cons (pd_at (d := nD (c.r.ar.getD 0 0)) (pd_fld (d := .tup (c.r.ar.map nD)) (pd_fld (d := rowD K c.r) (pd_var 0 rfl) T.clCoast T.noCoast_row rfl) T.clRow T.noRow_areas rfl) pd_int (atD_tup g0)) pad_nil) (part1_ok _)) pad_nil)) ⟨c.lf.getD 0, _, by rw [eo]; rfl, p3, p4, rfl⟩) (gd_sub (m := 0) 2 rfl pd_int ?_) ?_)
    · rw [List.length_map, hl]
      exact ixN_n (j := 0) (by omega)
    · refine sds_one (sd_ret (pd_make FCoast (hr.mono (by decide)) dfl_nil (pad_cons (pd_meth (r := rowD K (copen c 0).r) Fwith (hr.mono (by decide)) dfl_nil (pd_fld (d := rowD K c.r) (pd_var 0 rfl) T.clCoast T.noCoast_row rfl) (pad_cons (pd_frz 2 rfl) pad_nil) rfl ?_) (pad_cons (pd_fld (d := optD c.lf) (pd_var 0 rfl) T.clCoast T.noCoast_left rfl) (pad_cons (pd_fld (d := optD c.rt) (pd_var 0 rfl) T.clCoast T.noCoast_right rfl) pad_nil))) hinit) rfl)
      have := hwith _ ev
      rw [map_set_qd] at this
      exact this
  · refine sds_cons (sd_ifF (pt_eq (pd_var 1 rfl) pd_int) (decide_eq_false (by omega)) ?_)
    by_cases kn : k = c.r.ar.length
    · have hsm : c.rt.isSome = true := by
        rcases hk with z | z | z
        · exact absurd z.1 k0
        · exact z.2
        · omega
      have ha := hc.a4 _ (getD_mem (xs := c.r.ar) (i := c.r.ar.length - 1) (d := 0) (by omega))
      obtain ⟨p1, p2, p3, p4⟩ := ht_prod hc.r hsm ha
      have ev : copenV c k = c.r.vo.set (c.r.ar.length - 1) (c.rt.getD 0 * ((c.r.ar.getD (c.r.ar.length - 1) 0 : Nat) : Rat)) := by unfold copenV; rw [if_neg k0, if_pos kn]
      have eo : optD c.rt = qd (c.rt.getD 0) := by
        cases h : c.rt with
        | none => rw [h] at hsm; cases hsm
        | some q => rfl
      have g0 : atI (c.r.ar.map nD) (-1) = some (nD (c.r.ar.getD (c.r.ar.length - 1) 0)) := atI_map (atI_last (by rw [List.getLast?_eq_getElem?]; exact getD_some (by omega)))
      refine sds_one (sd_ifT (pt_eq (pd_var 1 rfl) (pd_lenC (i := (c.r.ar.length : Nat)) Mlen T.len (hr.mono (by decide)) (pd_fld (d := rowD K c.r) (pd_var 0 rfl) T.clCoast T.noCoast_row rfl) ⟨c.r, rfl, rfl⟩ (by omega))) (decide_eq_true (by omega)) ?_)
      refine sds_one (sd_asgG (d := qd (c.rt.getD 0 * ((c.r.ar.getD (c.r.ar.length - 1) 0 : Nat) : Rat))) (pd_call Ftimes (hr.mono (by decide)) dfl_nil (pad_cons (pd_fld (d := optD c.rt) (pd_var 0 rfl) T.clCoast T.noCoast_right rfl) (pad_cons (pd_call (r := qd (((c.r.ar.getD (c.r.ar.length - 1) 0 : Nat) : Int) : Rat)) Fpart (hr.mono (by decide)) dfl_one (pad_cons (pd_at (d := nD (c.r.ar.getD (c.r.ar.length - 1) 0)) (pd_fld (d := .tup (c.r.ar.map nD)) (pd_fld (d := rowD K c.r) (pd_var 0 rfl) T.clCoast T.noCoast_row rfl) T.clRow T.noRow_areas rfl) (pd_neg pd_int) (atD_tup g0)) pad_nil) (part1_ok _)) pad_nil)) ⟨c.rt.getD 0, _, by rw [eo]; rfl, p3, p4, rfl⟩) (gd_sub (m := c.r.ar.length - 1) 2 rfl (pd_neg pd_int) ?_) ?_)
      · rw [List.length_map, hl]
        unfold ixN
        rw [if_neg (by decide), if_pos (by omega)]
        congr 1
        omega
      · refine sds_one (sd_ret (pd_make FCoast (hr.mono (by decide)) dfl_nil (pad_cons (pd_meth (r := rowD K (copen c k).r) Fwith (hr.mono (by decide)) dfl_nil (pd_fld (d := rowD K c.r) (pd_var 0 rfl) T.clCoast T.noCoast_row rfl) (pad_cons (pd_frz 2 rfl) pad_nil) rfl ?_) (pad_cons (pd_fld (d := optD c.lf) (pd_var 0 rfl) T.clCoast T.noCoast_left rfl) (pad_cons (pd_fld (d := optD c.rt) (pd_var 0 rfl) T.clCoast T.noCoast_right rfl) pad_nil))) hinit) rfl)
        have := hwith _ ev
        rw [map_set_qd] at this
        exact this
    · have k1 : 1 ≤ k ∧ k < c.r.ar.length := by
        rcases hk with z | z | z
        · exact absurd z.1 k0
        · exact absurd z.1 kn
        · exact z
      obtain ⟨D2, M2, op⟩ := q4 k1.1 k1.2
      have ev : copenV c k = openV c.r.ar c.r.vo k 1 := by unfold copenV; rw [if_neg k0, if_neg kn]
      refine sds_one (sd_ifF (pt_eq (pd_var 1 rfl) (pd_lenC (i := (c.r.ar.length : Nat)) Mlen T.len (hr.mono (by decide)) (pd_fld (d := rowD K c.r) (pd_var 0 rfl) T.clCoast T.noCoast_row rfl) ⟨c.r, rfl, rfl⟩ (by omega))) (decide_eq_false (by omega)) ?_)
      refine sds_one (sd_ret (pd_make FCoast (hr.mono (by decide)) dfl_nil (pad_cons (pd_meth (r := rowD K (copen c k).r) Mop (hr.mono (by decide)) hdv (pd_fld (d := rowD K c.r) (pd_var 0 rfl) T.clCoast T.noCoast_row rfl) (pad_cons (pd_var 1 rfl) pad_nil) rfl ⟨c.r, k, 1, D2, M2, 1, rfl, hc.ok, weirs_all hc.lk k1.1 k1.2, by decide, by decide, op, ?_⟩) (pad_cons (pd_fld (d := optD c.lf) (pd_var 0 rfl) T.clCoast T.noCoast_left rfl) (pad_cons (pd_fld (d := optD c.rt) (pd_var 0 rfl) T.clCoast T.noCoast_right rfl) pad_nil))) hinit) rfl)
      show rowD K { c.r with vo := copenV c k } = _
      rw [ev]
end
end WL
set_option Elab.async false
set_option linter.all false
set_option maxRecDepth 100000
set_option maxHeartbeats 4000000
namespace WL
open PySem PySem.Spec PyProof.Rows L2
def zerosV (n : Nat) : List Rat := List.replicate n 0
def unitV (n b : Nat) : List Rat := (List.range n).map fun i => if i = b then 1 else 0
def noneV (c : Cst) (o : List Nat) : List Rat := (afterC (withV c (zerosV c.r.ar.length)) o).r.vo
def lateV (c : Cst) (o : List Nat) (b : Nat) : List Rat := (afterC (withV c (unitV c.r.ar.length b)) o).r.vo
def colV (c : Cst) (o : List Nat) (b : Nat) : List Rat := List.zipWith (fun p q => p - q) (lateV c o b) (noneV c o)
theorem zeros_sz (n : Nat) : CSz 2 32 (zerosV n) ∧ (zerosV n).length = n ∧ ∀ q ∈ zerosV n, 0 ≤ q := by
  refine ⟨⟨2, 32, by decide, by decide, by decide, by decide, by decide, fun q hq => ?_⟩, by unfold zerosV; simp, fun q hq => ?_⟩
  · unfold zerosV at hq
    rw [(List.mem_replicate.mp hq).2]
    exact (bd_int (i := 0) (M := 32) (by decide)).wide (E := 2)
  · unfold zerosV at hq
    rw [(List.mem_replicate.mp hq).2]
    exact Rat.le_refl
theorem unit_sz (n b : Nat) : CSz 2 32 (unitV n b) ∧ (unitV n b).length = n ∧ ∀ q ∈ unitV n b, 0 ≤ q := by
  refine ⟨⟨2, 32, by decide, by decide, by decide, by decide, by decide, fun q hq => ?_⟩, by unfold unitV; simp, fun q hq => ?_⟩
  · unfold unitV at hq
    obtain ⟨i, _, rfl⟩ := List.mem_map.mp hq
    split
    · exact (bd_int (i := 1) (M := 32) (by decide)).wide (E := 2)
    · exact (bd_int (i := 0) (M := 32) (by decide)).wide (E := 2)
  · unfold unitV at hq
    obtain ⟨i, _, rfl⟩ := List.mem_map.mp hq
    split <;> decide
theorem withV_ok {c : Cst} {v : List Rat} (h : CoOk c) (hl : v.length = c.r.ar.length) (hn : ∀ q ∈ v, 0 ≤ q) : CoOk (withV c v) := ⟨⟨h.ok.pos, h.ok.most, h.ok.ar, hl, hn, h.ok.srt, h.ok.lk⟩, h.n7, h.a4, h.lk, h.l, h.r⟩
structure OrdC (c : Cst) (o : List Nat) : Prop where
  ok : CoOk c
  w : ∀ k ∈ o, InC c k
  len : o.length ≤ 15
theorem OrdC.aft {c : Cst} {o : List Nat} {v : List Rat} {D M : Nat} (h : OrdC c o) (hl : v.length = c.r.ar.length) (hn : ∀ q ∈ v, 0 ≤ q) (hs : CSz D M v) (hD : D < 2 ^ 4300) (hM : M < 2 ^ 300000) : AftOk (withV c v) o D M := ⟨withV_ok h.ok hl hn, fun k hk => h.w k hk, h.len, hs, hD, hM⟩
theorem AftOk.fin {c : Cst} {o : List Nat} {D M : Nat} (h : AftOk c o D M) : CoOk (afterC c o) ∧ CSz (D * 8 ^ cntI c.r.ar.length o) (M * 6 ^ o.length) (afterC c o).r.vo ∧ ∀ q ∈ (afterC c o).r.vo, Sm q := by
  have := aft_step h o.length (Nat.le_refl _)
  rw [List.take_length] at this
  refine ⟨this.1, this.2, fun q hq => ?_⟩
  obtain ⟨D', M', h0, _, h2, h3, _, h5⟩ := this.2
  have hcnt : cntI c.r.ar.length o ≤ 15 := Nat.le_trans (List.length_filter_le _ _) h.len
  obtain ⟨r1, r2⟩ := aft_room h.hD h.hM hcnt h.len
  have e1 : D' ≤ D * 8 ^ cntI c.r.ar.length o * 2000 := Nat.le_trans h2 (Nat.le_mul_of_pos_right _ (by decide))
  exact (h5 q hq).sm h0 (Nat.lt_of_le_of_lt e1 r1) (Nat.lt_of_le_of_lt (Nat.mul_le_mul (Nat.le_trans h3 (Nat.le_mul_of_pos_right _ (by decide))) e1) r2)
theorem p43 {a : Nat} (h : a ≤ 2 ^ 10) : a < 2 ^ 4300 := Nat.lt_of_le_of_lt h (Nat.pow_lt_pow_right (by decide) (by decide))
theorem p3e5 {a : Nat} (h : a ≤ 2 ^ 10) : a < 2 ^ 300000 := Nat.lt_of_le_of_lt h (Nat.pow_lt_pow_right (by decide) (by decide))
theorem OrdC.none {c : Cst} {o : List Nat} (h : OrdC c o) : AftOk (withV c (zerosV c.r.ar.length)) o 2 32 := by
  obtain ⟨a, b, d⟩ := zeros_sz c.r.ar.length
  exact h.aft b d a (p43 (by decide)) (p3e5 (by decide))
theorem OrdC.unit {c : Cst} {o : List Nat} (h : OrdC c o) (i : Nat) : AftOk (withV c (unitV c.r.ar.length i)) o 2 32 := by
  obtain ⟨a, b, d⟩ := unit_sz c.r.ar.length i
  exact h.aft b d a (p43 (by decide)) (p3e5 (by decide))
section
variable {P : Program} {w : World} {K : PySem.W.Frag} {mg : Str → Option Value} {base : Heap}
def RCheckCoast (K : PySem.W.Frag) (ds : List D) (r : D) : Prop := ∃ c, ds = [coastD K c] ∧ r = .non
abbrev C_check_coast (P : Program) (w : World) (K : PySem.W.Frag) (mg : Str → Option Value) (base : Heap) : Prop := Fn P w K mg base "check_coast" ["thing"] 1 (SpP ⟨P, w, K⟩ (RCheckCoast K)) []
theorem sc_check_coast : FnScope ["thing"] ["thing"] (defScope s_check_coast) := ⟨rfl, rfl, rfl, by decide +kernel, rfl, by decide +kernel, by decide +kernel⟩
theorem fn_check_coast (T : Tx K mg) (F : Dfn K mg "check_coast" s_check_coast []) : C_check_coast P w K mg base := by
  have sc := sc_check_coast
  refine F.fn (fun _ _ _ _ _ _ us hl => match us, hl with | [_], _ => rfl) fun f fd F => ?_
  refine fn_pure F sc (by rintro ds r ⟨_, rfl, _⟩; rfl) (by decide) fun cdv A outer s H ds r hr hR => ?_
  obtain ⟨c, rfl, rfl⟩ := hR
  exact sds_one (sd_ifF (v := !true) (pt_not (PD.t (pd_isC "Coast" T.isinstance T.gCoast (pd_var 0 rfl) T.tyCoast T.isCoast))) rfl (sds_nil rfl))
def RCheckCO (K : PySem.W.Frag) (ds : List D) (r : D) : Prop := ∃ (c : Cst) (o : List Nat), ds = [coastD K c, .lst (o.map nD)] ∧ OrdC c o ∧ r = .non
abbrev C_check_coast_order (P : Program) (w : World) (K : PySem.W.Frag) (mg : Str → Option Value) (base : Heap) : Prop := Fn P w K mg base "check_coast_order" ["coast", "order"] 4 (SpP ⟨P, w, K⟩ (RCheckCO K)) []
theorem sc_check_coast_order : FnScope ["coast", "order", "place", "weir"] ["coast", "order"] (defScope s_check_coast_order) := ⟨rfl, rfl, rfl, by decide +kernel, rfl, by decide +kernel, by decide +kernel⟩
theorem fn_check_coast_order (T : Tx K mg) (F : Dfn K mg "check_coast_order" s_check_coast_order []) (Fcheck_coast : C_check_coast P w K mg base) (Fis_whole : C_is_whole P w K mg base) (Mcin : M_cin P w K mg base) : C_check_coast_order P w K mg base := by
  have sc := sc_check_coast_order
  refine F.fn (fun _ _ _ _ _ _ us hl => match us, hl with | [_, _], _ => rfl) fun f fd F => ?_
  refine fn_pure F sc (by rintro ds r ⟨_, _, rfl, _⟩; rfl) (by decide) fun cdv A outer s H ds r hr hR => ?_
  obtain ⟨c, o, rfl, ho, rfl⟩ := hR
  have h7 := ho.ok.n7
  have hpos := ho.ok.ok.pos
  have hl := ho.len
  refine sds_cons (sd_expr (pd_call (r := .non) Fcheck_coast (hr.mono (by decide)) dfl_nil (pad_cons (pd_var 0 rfl) pad_nil) ⟨c, rfl, rfl⟩) ?_)
  refine sds_cons (sd_ifF (v := false) (PTD.is (pt_or2 (pt_not (PD.t (pd_isSeq T.isinstance T.list T.tuple (pd_var 1 rfl) rfl))) (fun _ => (pt_gt (pd_len T.len (pd_var 1 rfl) rfl) (pd_glob T.MOST_ORDER)))) ?_) rfl (sds_nil ?_))
  · have e : ¬ ((20000 : Int) < ((o.map nD).length : Nat)) := by rw [List.length_map]; omega
    simp only [e, decide_false, Bool.not_true, Bool.or_self]
  refine sds_one (sd_for (fun k ρ => ∃ e1 e2, ρ = [.d (coastD K c), .d (.lst (o.map nD)), e1, e2]) (src_enum T.enumerate (pd_var 1 rfl)) ⟨_, _, rfl⟩ (fun k d ρ hd hI => ?_) (fun ρ hI => rfl))
  obtain ⟨e1, e2, rfl⟩ := hI
  have hk : k < o.length := by have := (List.getElem?_eq_some_iff.mp hd).1; rw [enD_len, List.length_map] at this; exact this
  have hx : (o.map nD)[k]? = some (nD o[k]) := by rw [List.getElem?_map, List.getElem?_eq_getElem hk]; rfl
  rw [enD_get hx] at hd
  cases hd
  refine ⟨_, _, (gd_tup2 (gd_name 2 sc.nd) (gd_name 3 sc.nd)), ?_⟩
  exact sds_one (sd_ifF (v := !true || !true) (pt_or2 (pt_not (PD.t (pd_call Fis_whole (hr.mono (by decide)) dfl_nil (pad_cons (pd_var 3 rfl) pad_nil) isWhole_int))) (fun _ => (pt_notInC (v := true) Mcin (hr.mono (by decide)) (pd_var 3 rfl) (pd_var 0 rfl) ⟨c, _, rfl, ho.w _ (List.getElem_mem hk), ho.ok.lk, by omega, hpos, rfl⟩))) rfl (sds_nil ⟨_, _, rfl⟩))
def RAfter (K : PySem.W.Frag) (ds : List D) (r : D) : Prop := ∃ (c : Cst) (o : List Nat) (Dn M : Nat), ds = [coastD K c, .lst (o.map nD)] ∧ AftOk c o Dn M ∧ r = coastD K (afterC c o)
abbrev C_after (P : Program) (w : World) (K : PySem.W.Frag) (mg : Str → Option Value) (base : Heap) : Prop := Fn P w K mg base "after" ["coast", "order"] 9 (SpP ⟨P, w, K⟩ (RAfter K)) []
theorem sc_after : FnScope ["coast", "order", "weir"] ["coast", "order"] (defScope s_after) := ⟨rfl, rfl, rfl, by decide +kernel, rfl, by decide +kernel, by decide +kernel⟩
theorem fn_after (T : Tx K mg) (F : Dfn K mg "after" s_after []) (Fcheck : C_check_coast_order P w K mg base) (Mop : M_copened P w K mg base) : C_after P w K mg base := by
  have sc := sc_after
  refine F.fn (fun _ _ _ _ _ _ us hl => match us, hl with | [_, _], _ => rfl) fun f fd F => ?_
  refine fn_pure F sc (by rintro ds r ⟨_, _, _, _, rfl, _⟩; rfl) (by decide) fun cdv A outer s H ds r hr hR => ?_
  obtain ⟨c, o, Dn, M, rfl, ho, rfl⟩ := hR
  refine sds_cons (sd_expr (pd_call (r := .non) Fcheck (hr.mono (by decide)) dfl_nil (pad_cons (pd_var 0 rfl) (pad_cons (pd_var 1 rfl) pad_nil)) ⟨c, o, rfl, ⟨ho.ok, ho.w, ho.len⟩, rfl⟩) ?_)
  refine sds_cons (sd_for (fun k ρ => ∃ e, ρ = [.d (coastD K (afterC c (o.take k))), .d (.lst (o.map nD)), e]) (src_list (pd_var 1 rfl)) ⟨_, rfl⟩ (fun k d ρ hd hI => ?_) (fun ρ hI => ?_))
  · obtain ⟨e, rfl⟩ := hI
    have hk : k < o.length := by have := (List.getElem?_eq_some_iff.mp hd).1; rw [List.length_map] at this; exact this
    have hko := List.getElem?_eq_getElem hk
    rw [List.getElem?_map, hko] at hd
    cases hd
    obtain ⟨h1, h2, D', M', h3, h4, h5⟩ := aft_open ho hk
    have hfs : afterC c (o.take (k + 1)) = copen (afterC c (o.take k)) o[k] := foldl_take_succ _ _ hko
    rw [hfs]
    refine ⟨_, _, (gd_name 2 sc.nd), ?_⟩
    exact sds_one (sd_asg 0 (pd_meth Mop (hr.mono (by decide)) dfl_nil (pd_var 0 rfl) (pad_cons (pd_var 2 rfl) pad_nil) rfl ⟨_, o[k], D', M', rfl, h1, h2, h3, h4, h5, rfl⟩) ⟨E.d (nD o[k]), rfl⟩ sc.nd)
  · obtain ⟨e, rfl⟩ := hI
    refine sds_one (sd_ret (pd_var 0 rfl) ?_)
    rw [List.length_map, List.take_length]
def RWithC (K : PySem.W.Frag) (ds : List D) (r : D) : Prop := ∃ (c : Cst) (vd : D) (ps : List D) (qs : List Rat), ds = [coastD K c, vd] ∧ CoOk c ∧ seqD vd = some ps ∧ PartDs ps qs ∧ qs.length = c.r.ar.length ∧ (∀ q ∈ qs, 0 ≤ q) ∧ r = coastD K (withV c qs)
abbrev C_with_volumes (P : Program) (w : World) (K : PySem.W.Frag) (mg : Str → Option Value) (base : Heap) : Prop := Fn P w K mg base "with_volumes" ["coast", "volumes"] 7 (SpP ⟨P, w, K⟩ (RWithC K)) []
theorem sc_with_volumes : FnScope ["coast", "volumes"] ["coast", "volumes"] (defScope s_with_volumes) := ⟨rfl, rfl, rfl, by decide +kernel, rfl, by decide +kernel, by decide +kernel⟩
theorem fn_with_volumes (T : Tx K mg) (F : Dfn K mg "with_volumes" s_with_volumes []) (Fwith : M_with_volumes P w K mg base) (FCoast : C_Coast3 P w K mg base) : C_with_volumes P w K mg base := by
  have sc := sc_with_volumes
  refine F.fn (fun _ _ _ _ _ _ us hl => match us, hl with | [_, _], _ => rfl) fun f fd F => ?_
  refine fn_pure F sc (by rintro ds r ⟨_, _, _, _, rfl, _⟩; rfl) (by decide) fun cdv A outer s H ds r hr hR => ?_
  obtain ⟨c, vd, ps, qs, rfl, hc, hv, hp, hl, hn, rfl⟩ := hR
  exact sds_one (sd_ret (pd_make FCoast (hr.mono (by decide)) dfl_nil (pad_cons (pd_meth (r := rowD K (withV c qs).r) Fwith (hr.mono (by decide)) dfl_nil (pd_fld (d := rowD K c.r) (pd_var 0 rfl) T.clCoast T.noCoast_row rfl) (pad_cons (pd_var 1 rfl) pad_nil) rfl ⟨c.r, vd, ps, qs, rfl, hc.ok, hv, hp, hl, hn, rfl⟩) (pad_cons (pd_fld (d := optD c.lf) (pd_var 0 rfl) T.clCoast T.noCoast_left rfl) (pad_cons (pd_fld (d := optD c.rt) (pd_var 0 rfl) T.clCoast T.noCoast_right rfl) pad_nil))) (fun dx => ⟨dx, (withV c qs).r, _, _, c.lf, c.rt, rfl, rfl, hc.lk, optP_optD hc.l, optP_optD hc.r, hc.l, hc.r, rfl, rfl⟩)) rfl)
/-! ### rounds_map -/
def lstQ (qs : List Rat) : D := .lst (qs.map qd)
def RRounds (K : PySem.W.Frag) (ds : List D) (r : D) : Prop := ∃ (c : Cst) (o : List Nat), ds = [coastD K c, .lst (o.map nD)] ∧ OrdC c o ∧ r = .tup [.tup ((noneV c o).map qd), .lst (((List.range c.r.ar.length).map (colV c o)).map lstQ)]
abbrev C_rounds_map (P : Program) (w : World) (K : PySem.W.Frag) (mg : Str → Option Value) (base : Heap) : Prop := Fn P w K mg base "rounds_map" ["coast", "order"] 10 (SpP ⟨P, w, K⟩ (RRounds K)) []
theorem partDs_zero (n : Nat) : PartDs (List.replicate n (D.int 0)) (zerosV n) := ⟨by unfold zerosV; simp, fun i d q hd hq => by
  unfold zerosV at hq
  rw [List.getElem?_replicate] at hd hq
  split at hd
  · rename_i h
    rw [if_pos h] at hq
    cases hd; cases hq
    exact PartD.int 0
  · cases hd⟩
theorem partDs_unit (n b : Nat) : PartDs ((List.range n).map fun i => D.int (if i = b then 1 else 0)) (unitV n b) := ⟨by unfold unitV; simp, fun i d q hd hq => by
  unfold unitV at hq
  by_cases h : i < n
  · rw [List.getElem?_map, List.getElem?_range h] at hd hq
    cases hd; cases hq
    by_cases e : i = b
    · simp only [e, if_true]
      exact PartD.int 1
    · simp only [e, if_false]
      exact PartD.int 0
  · rw [List.getElem?_eq_none (by simp; omega)] at hd; cases hd⟩
theorem sc_rounds_map : FnScope ["coast", "order", "many", "none", "columns", "basin", "late", "one", "mine", "theirs"] ["coast", "order"] (defScope s_rounds_map) := ⟨rfl, rfl, rfl, by decide +kernel, rfl, by decide +kernel, by decide +kernel⟩
theorem fn_rounds_map (T : Tx K mg) (F : Dfn K mg "rounds_map" s_rounds_map []) (Mlen : M_len P w K mg base) (Fafter : C_after P w K mg base) (Fwith : C_with_volumes P w K mg base) (Fminus : C_minus P w K mg base) : C_rounds_map P w K mg base := by
  have sc := sc_rounds_map
  refine F.fn (fun _ _ _ _ _ _ us hl => match us, hl with | [_, _], _ => rfl) fun f fd F => ?_
  refine fn_pure F sc (by rintro ds r ⟨_, _, rfl, _⟩; rfl) (by decide) fun cdv A outer s H ds r hr hR => ?_
  obtain ⟨c, o, rfl, ho, rfl⟩ := hR
  have h7 := ho.ok.n7
  obtain ⟨z1, z2, z3⟩ := zeros_sz c.r.ar.length
  obtain ⟨f1, f2, f3⟩ := ho.none.fin
  have nlen : (noneV c o).length = c.r.ar.length := by
    have := f1.ok.len
    rw [(after_same o _).1] at this
    exact this
  refine sds_cons (sd_asg (d := nD c.r.ar.length) 2 (pd_lenC (i := (c.r.ar.length : Nat)) Mlen T.len (hr.mono (by decide)) (pd_fld (d := rowD K c.r) (pd_var 0 rfl) T.clCoast T.noCoast_row rfl) ⟨c.r, rfl, rfl⟩ (by omega)) ?_ sc.nd)
  refine sds_cons (sd_asg (d := .tup ((noneV c o).map qd)) 3 (pd_fld (d := .tup ((noneV c o).map qd)) (pd_fld (d := rowD K (afterC (withV c (zerosV c.r.ar.length)) o).r) (pd_call (r := coastD K (afterC (withV c (zerosV c.r.ar.length)) o)) Fafter (hr.mono (by decide)) dfl_nil (pad_cons (pd_call (r := coastD K (withV c (zerosV c.r.ar.length))) Fwith (hr.mono (by decide)) dfl_nil (pad_cons (pd_var 0 rfl) (pad_cons (PL.lst (pl_rep (d := .int 0) (n := c.r.ar.length) (PL.lst (pl_lst (pad_cons pd_int pad_nil) (lenOk rfl))) (pd_var 2 rfl) (by omega))) pad_nil)) ⟨c, _, _, zerosV c.r.ar.length, rfl, ho.ok, rfl, partDs_zero _, z2, z3, rfl⟩) (pad_cons (pd_var 1 rfl) pad_nil)) ⟨_, o, 2, 32, rfl, ho.none, rfl⟩) T.clCoast T.noCoast_row rfl) T.clRow T.noRow_volumes rfl) ?_ sc.nd)
  refine sds_cons (sd_asgL 4 (pl_lst pad_nil (lenOk rfl)) (fun l => ?_) sc.nd)
  refine sds_cons (sd_for (fun k ρ => ∃ e5 e6, ρ = [.d (coastD K c), .d (.lst (o.map nD)), .d (nD c.r.ar.length), .d (.tup ((noneV c o).map qd)), .own l (.lst (((List.range k).map (colV c o)).map lstQ)), e5, e6, .no, .no, .no]) (src_range1 T.range (pd_var 2 rfl) (by omega)) ⟨_, _, rfl⟩ (fun k d ρ hd hI => ?_) (fun ρ hI => ?_))
  · obtain ⟨e5, e6, rfl⟩ := hI
    have hk : k < c.r.ar.length := by have := (List.getElem?_eq_some_iff.mp hd).1; rw [rgFrom_len] at this; omega
    rw [rgFrom_get (by omega)] at hd
    cases hd
    rw [Int.zero_add]
    obtain ⟨u1, u2, u3⟩ := unit_sz c.r.ar.length k
    obtain ⟨g1, g2, g3⟩ := (ho.unit k).fin
    have llen : (lateV c o k).length = c.r.ar.length := by
      have := g1.ok.len
      rw [(after_same o _).1] at this
      exact this
    refine ⟨_, _, (gd_name 5 sc.nd), ?_⟩
    refine sds_cons (sd_asg (d := .tup ((lateV c o k).map qd)) 6 (pd_fld (d := .tup ((lateV c o k).map qd)) (pd_fld (d := rowD K (afterC (withV c (unitV c.r.ar.length k)) o).r) (pd_call (r := coastD K (afterC (withV c (unitV c.r.ar.length k)) o)) Fafter (hr.mono (by decide)) dfl_nil (pad_cons (pd_call (r := coastD K (withV c (unitV c.r.ar.length k))) Fwith (hr.mono (by decide)) dfl_nil (pad_cons (pd_var 0 rfl) (pad_cons (PL.lst (pl_lc (own := [("one", 7)]) (lcr_to ((List.range c.r.ar.length).map fun i => D.int (if i = k then 1 else 0)) (src_range1 T.range (pd_var 2 rfl) (by omega)) [7] [7] (by decide) (no1 rfl) ?_ ?_ (fun i d y hd hy => ?_)) sc.nd rfl)) pad_nil)) ⟨c, _, _, unitV c.r.ar.length k, rfl, ho.ok, rfl, partDs_unit _ _, u2, u3, rfl⟩) (pad_cons (pd_var 1 rfl) pad_nil)) ⟨_, o, 2, 32, rfl, ho.unit k, rfl⟩) T.clCoast T.noCoast_row rfl) T.clRow T.noRow_volumes rfl) ?_ sc.nd)
    · rw [rgFrom_len]; simp
    · rw [rgFrom_len]; omega
    · have hi : i < c.r.ar.length := by have := (List.getElem?_eq_some_iff.mp hd).1; rw [rgFrom_len] at this; omega
      rw [rgFrom_get (by omega)] at hd
      cases hd
      rw [List.getElem?_map, List.getElem?_range hi] at hy
      cases hy
      rw [Int.zero_add]
      refine ⟨_, fun _ _ _ _ _ => (gd_name 7 sc.nd), fun _ _ _ _ _ => (pd_ifexp (pt_eq (pd_var 7 rfl) (pd_var 5 rfl)) (fun hc => PD.is pd_int ?_) (fun hc => PD.is pd_int ?_)), rfl⟩
      · have := of_decide_eq_true hc
        show D.int 1 = D.int (if i = k then 1 else 0)
        rw [if_pos (by omega)]
      · have := of_decide_eq_false hc
        show D.int 0 = D.int (if i = k then 1 else 0)
        rw [if_neg (by omega)]
    refine sds_one (sd_append 4 rfl (PL.lst (pl_lc (own := [("mine", 8), ("theirs", 9)]) (lcr_to ((colV c o k).map qd) (src_zipT T.zip (pd_var 6 rfl) (pd_var 3 rfl)) [8, 9] [8, 9] (by decide) (no2 rfl rfl) ?_ ?_ (fun i d y hd hy => ?_)) sc.nd rfl)) rfl ?_ ⟨E.d (nD k), E.d (.tup ((lateV c o k).map qd)), ?_⟩)
    · rw [zipD_len, List.length_map, List.length_map, List.length_map]
      unfold colV
      rw [List.length_zipWith]
    · rw [zipD_len, List.length_map, List.length_map]; omega
    · rw [List.getElem?_map] at hy
      obtain ⟨z, hz, rfl⟩ := Option.map_eq_some_iff.mp hy
      unfold colV at hz
      rw [List.getElem?_zipWith] at hz
      cases ha : (lateV c o k)[i]? with
      | none => rw [ha] at hz; simp at hz
      | some a =>
        cases hb' : (noneV c o)[i]? with
        | none => rw [ha, hb'] at hz; simp at hz
        | some b =>
          rw [ha, hb'] at hz
          simp at hz
          subst hz
          rw [zipD_get (d := qd a) (d' := qd b) (by rw [List.getElem?_map, ha]; rfl) (by rw [List.getElem?_map, hb']; rfl)] at hd
          cases hd
          exact ⟨_, fun _ _ _ _ _ => (gd_tup2 (gd_name 8 sc.nd) (gd_name 9 sc.nd)), fun _ _ _ _ _ => (pd_call Fminus (hr.mono (by decide)) dfl_nil (pad_cons (pd_var 8 rfl) (pad_cons (pd_var 9 rfl) pad_nil)) ⟨a, b, rfl, g3 a (List.mem_of_getElem? ha), f3 b (List.mem_of_getElem? hb'), rfl⟩), rfl⟩
    · rw [List.length_map, List.length_map, List.length_range]; omega
    · rw [List.range_succ, List.map_append, List.map_append]; rfl
  · obtain ⟨e5, e6, rfl⟩ := hI
    refine sds_one (sd_ret (pd_tup (pad_cons (pd_var 3 rfl) (pad_cons (pd_frz 4 rfl) pad_nil)) (lenOk rfl)) ?_)
    rw [rgFrom_len]; rfl
end
end WL
set_option Elab.async false
set_option linter.all false
set_option maxRecDepth 100000
set_option maxHeartbeats 4000000
namespace WL
open PySem PySem.Spec PyProof.Rows L2
/-- a def that uses up its first argument, an object of one's own -/
def SpC (B : Bs) (R : O → List D → D → Prop) : Sp := fun vs H Q _ => ∃ Hb l ho o ds r vs', vs = .ref l :: vs' ∧ H l = some ho ∧ Hb l = none ∧ Ex Hb H ∧ ORep B Hb l o ho ∧ Reps B Hb ds vs' ∧ R o ds r ∧
  ∀ v Hb' H', Grow Hb (era H l) Hb' H' → Rep B Hb' r v → Q v H'
section
variable {X : Cx} {ρ ρ' ρ1 ρ2 ρ3 ρ4 : List E} {e a b c : Expr} {es : List Expr} {pos p pos' ap : Pos} {d x y z r : D} {ds dd xs ys : List D} {i j k : Int} {P : Post} {RC : O → List D → D → Prop} {nm m : Str} {ps : List Str} {lv : Nat} {dvs : List V}
/-- f(x, ..), x an object of one's own that the def uses up -/
theorem pd_callC (n : Nat) {l : Addr} {o o0 : O} {x : Str} {pn : Pos} (F : Fn X.prog X.w X.K X.mg X.base nm ps lv (SpC (bs X) RC) dvs) (hr : Room lv X.A) (hd : Dfl (bs X) dd dvs) (h0 : ρ[n]? = some (.own l o0)) (ha : PAD X ρ es ρ1 ds) (h1 : ρ1[n]? = some (.own l o)) (h : RC o (ds ++ dd) r) (hg : Gl X nm := by rfl) (hdb : (nm == ("__debug__" : Str)) = false := by decide)
    (hN : X.N[n]? = some x := by rfl) (hv : Vis X.env.scope x := by first | exact Or.inl rfl | exact Or.inr (Or.inl rfl) | exact Or.inr (Or.inr rfl)) (hd1 : (x == ("__debug__" : Str)) = false := by decide) (hd2 : (x == ("__classdict__" : Str)) = false := by decide)
    (he : starEach (.Name x pn :: es) X.env = (false, eval (.Name x pn) X.env) :: starEach es X.env := by rfl) (hpl : (backTo pos (starEach es X.env)).any (·.1) = false := by rfl) : PD X ρ (.Call (.Name nm p) (.Name x pn :: es) [] pos) (ρ1.set n .no) r := fun Hb0 H0 σ Hb H ev Q q => by
  obtain ⟨f, fd, us, hm, hk, F, hvs, hb⟩ := F.ex
  refine (pe_call F hr hg hm hk hb hvs pass0 (pa_cons (pe_var hN hv hd1 hd2) pa_w he) hdb he hpl).w ?_
  refine ⟨.ref l, (ev.own n l o0 h0).1, ha _ _ _ _ _ ev _ fun vs Hb1 H1 e1 x1 r1 => ?_⟩
  obtain ⟨g1, g2, g3, ho, g4, g5⟩ := e1.own n l o h1
  refine ⟨Hb1, l, ho, o, ds ++ dd, r, vs ++ dvs, rfl, g4, g2, e1.sub, g5, r1.append (hd Hb1), h, fun v Hb2 H2 g rv => ?_⟩
  refine q v Hb2 H2 ?_ (x1.trans g.a) rv
  have hn : n < ρ1.length := (List.getElem?_eq_some_iff.mp h1).1
  have oth : ∀ a u, H1 a = some u → a ≠ l → H2 a = some u ∧ Hb2 a = Hb1 a := fun a u ha hne => ⟨g.b a u (by rw [era_ne hne]; exact ha), g.f a u (by rw [era_ne hne]; exact ha)⟩
  refine ⟨by rw [List.length_set]; exact e1.len, e1.ex0.trans g.a, fun a u ha => ?_, g.c, fun a u ha => ?_, fun i y hy => ?_, fun i l' o2 hy => ?_, fun i j l' o2 o3 hi hj => ?_⟩
  · exact (oth a u (e1.ex1 a u ha) (ne_of_none ha g3)).1
  · exact (oth a u (e1.ex1 a u ha) (ne_of_none ha g3)).2.trans (e1.fr a u ha)
  · rw [get_set] at hy
    split at hy
    · cases hy
    · obtain ⟨v', k1, k2⟩ := e1.dat i y hy
      exact ⟨v', k1, Rep.mono g.a _ _ k2⟩
  · rw [get_set] at hy
    split at hy
    · cases hy
    · rename_i z
      obtain ⟨k1, k2, k3, u, k4, k5⟩ := e1.own i l' o2 hy
      have hne : l' ≠ l := fun w => z (by
        subst w
        have := e1.ap n i l' o o2 h1 hy
        exact ⟨this, this ▸ hn⟩)
      obtain ⟨m1, m2⟩ := oth l' u k4 hne
      exact ⟨k1, by rw [m2]; exact k2, k3, u, m1, k5.mono g.a⟩
  · rw [get_set] at hi hj
    split at hi
    · cases hi
    · split at hj
      · cases hj
      · exact e1.ap i j l' o2 o3 hi hj
end
section
variable {P : Program} {w : World} {K : PySem.W.Frag} {mg : Str → Option Value} {base : Heap} {x qual : Str} {st : Stmt} {dvs : List V} {f : Addr} {fd : FuncData} {N ps : List Str} {k : Nat}
theorem fn_con {kws : List (Str × V)} {RC : O → List D → D → Prop} (F : FunD K x qual (defArgs st) (defBody st) (defScope st) dvs kws f fd) (S : FnScope N ps (defScope st)) (hlen : ∀ o ds r, RC o ds r → ds.length + 1 = ps.length) (hN : ps.length ≤ N.length)
    (body : ∀ (cdv : Value) (A : Around) (outer : List Env) (s : Shared) (H : Hp) (l : Addr) (o : O) (ds : List D) (r : D), Room k (A.deeper (envOfC qual (defScope st) s.heap.objs.size f cdv)) → RC o ds r →
      SDs (cxOf CX0 P w K mg base N qual (defScope st) f cdv A outer s H E0).nox ((startE N.length (.non :: ds)).set 0 (.own l o)) (defBody st) { nx := fun ρ => r = .non, rt := fun ρ d => d = r }) : FnOk P w K mg base CX0 (k + 1) f fd ps (SpC ⟨P, w, K⟩ RC) := by
  refine F.ok S (fun vs H Q E h => ?_) fun cdv A outer s H vs Q E hr h => ?_
  · obtain ⟨Hb, l, ho, o, ds, r, vs', rfl, _, _, _, _, rr, hR, _⟩ := h
    rw [List.length_cons, ← rr.length, hlen o ds r hR]
  · obtain ⟨Hb, l, ho, o, ds, r, vs', rfl, hl, nb, hx, ro, rr, hR, q⟩ := h
    have hE : (cxOf CX0 P w K mg base N qual (defScope st) f cdv A outer s H E).nox = (cxOf CX0 P w K mg base N qual (defScope st) f cdv A outer s H E0).nox := rfl
    refine ⟨_, PSs.nox (pss_w (sts := defBody st)), ?_⟩
    rw [hE]
    have hx' : Ex Hb (era H l) := fun a u h => by
      rw [era_ne (ne_of_none h nb)]; exact hx a u h
    have hn1 := hlen o ds r hR
    have e0 : EnvS ⟨P, w, K⟩ Hb (era H l) (startE N.length (.non :: ds)) (start N (.non :: vs')) Hb (era H l) := envS_start hx' (.cons rep_non rr) (by rw [List.length_cons]; omega)
    have e1 := e0.setn 0 (some (.ref l))
    have hs : (start N (V.non :: vs')).set 0 (some (.ref l)) = start N (.ref l :: vs') := by
      unfold L2.start
      simp
    rw [hs] at e1
    have e2 : EnvS ⟨P, w, K⟩ Hb (era H l) ((startE N.length (.non :: ds)).set 0 .no) (start N (.ref l :: vs')) Hb H :=
      ⟨e1.len, e1.ex0, era_ex, hx, e1.fr, e1.dat, (fun i l2 o2 h => by
        exfalso
        rw [get_set] at h
        split at h
        · cases h
        · rcases startE_d h with ⟨d, hd, e⟩ | e
          · cases e
          · cases e), e1.ap⟩
    have no2 : NotOwn ((startE N.length (.non :: ds)).set 0 .no) l := fun i o2 h => by
      rw [get_set] at h
      split at h
      · cases h
      · rcases startE_d h with ⟨d, hd, e⟩ | e
        · cases e
        · cases e
    have e3 := e2.seto (i := 0) nb era_same hl ro (by rw [set_set_same]; exact no2)
    rw [set_set_same] at e3
    have hs2 : (start N (V.ref l :: vs')).set 0 (some (.ref l)) = start N (.ref l :: vs') := by
      unfold L2.start
      simp
    rw [hs2] at e3
    refine WSs.mono (body cdv A outer s H l o ds r hr hR Hb (era H l) _ Hb H e3) (fun σ' H' h => ?_) (fun v H' h => ?_) (fun σ' H' h => ?_) (fun σ' H' h => ?_)
    · obtain ⟨ρ, Hb', ev, e⟩ := h
      subst e
      exact q .non Hb' H' ⟨ev.ex0, ev.ex1, ev.sub, ev.fr⟩ rep_non
    · obtain ⟨ρ, σ', Hb', d, ev, rv, e⟩ := h
      subst e
      exact q v Hb' H' ⟨ev.ex0, ev.ex1, ev.sub, ev.fr⟩ rv
    · obtain ⟨ρ, Hb', ev, e⟩ := h
      exact e.elim
    · obtain ⟨ρ, Hb', ev, e⟩ := h
      exact e.elim
end
end WL
set_option Elab.async false
set_option linter.all false
set_option maxRecDepth 100000
set_option maxHeartbeats 4000000
namespace WL
open PySem PySem.Spec PyProof.Rows L2
abbrev Mx := List (List Rat)
def entry (rows : Mx) (i j : Nat) : Rat := (rows.getD i []).getD j 0
/-- the pivot's row divided by the pivot -/
def divRow (rows : Mx) (k : Nat) : List Rat := (rows.getD k []).map fun q => q / entry rows k k
def subRow (row prow : List Rat) (k : Nat) : List Rat := List.zipWith (fun p q => p - row.getD k 0 * q) row prow
/-- row i behind the turn of column k -/
def elimRow (rows : Mx) (k i : Nat) : List Rat := if i = k then divRow rows k else if entry rows i k = 0 then rows.getD i [] else subRow (rows.getD i []) (divRow rows k) k
def elimStep (rows : Mx) (k : Nat) : Mx := (List.range rows.length).map (elimRow rows k)
def elimN (rows : Mx) (k : Nat) : Mx := (List.range k).foldl elimStep rows
def lastCol (rows : Mx) : List Rat := rows.map fun r => r.getLastD 0
theorem elimStep_len (rows : Mx) (k : Nat) : (elimStep rows k).length = rows.length := by unfold elimStep; simp
theorem elimN_len (rows : Mx) : ∀ k, (elimN rows k).length = rows.length
  | 0 => rfl
  | k + 1 => by
    unfold elimN
    rw [List.range_succ, List.foldl_append]
    show (elimStep (elimN rows k) k).length = _
    rw [elimStep_len, elimN_len rows k]
theorem elimN_succ (rows : Mx) (k : Nat) : elimN rows (k + 1) = elimStep (elimN rows k) k := by
  unfold elimN
  rw [List.range_succ, List.foldl_append]; rfl
/-- all rows n + 1 long -/
def Wide (n : Nat) (rows : Mx) : Prop := rows.length = n ∧ ∀ r ∈ rows, r.length = n + 1
theorem wide_step {n : Nat} {rows : Mx} {k : Nat} (h : Wide n rows) (hk : k < n) : Wide n (elimStep rows k) := by
  obtain ⟨h1, h2⟩ := h
  refine ⟨by rw [elimStep_len]; exact h1, fun r hr => ?_⟩
  unfold elimStep at hr
  obtain ⟨i, hi, rfl⟩ := List.mem_map.mp hr
  have hi := List.mem_range.mp hi
  have l1 : (rows.getD i []).length = n + 1 := h2 _ (getD_mem hi)
  have l2 : (rows.getD k []).length = n + 1 := h2 _ (getD_mem (by omega))
  have l3 : (divRow rows k).length = n + 1 := by unfold divRow; rw [List.length_map]; exact l2
  unfold elimRow
  split
  · exact l3
  · split
    · exact l1
    · unfold subRow
      rw [List.length_zipWith, l1, l3]
      exact Nat.min_self _
theorem wide_N {n : Nat} {rows : Mx} (h : Wide n rows) : ∀ k, k ≤ n → Wide n (elimN rows k)
  | 0, _ => h
  | k + 1, hk => by rw [elimN_succ]; exact wide_step (wide_N h k (by omega)) (by omega)
/-- the room and the pivot of one turn -/
structure TurnOk (rows : Mx) (k : Nat) : Prop where
  pos : 0 < entry rows k k
  one : entry rows k k ≤ 1
  sz : ∃ Dn M : Nat, 0 < Dn ∧ Dn * Dn < 2 ^ 4400 ∧ (M + M * M * Dn) * (Dn * Dn) < 2 ^ 400000 ∧ 1 ≤ M ∧ ∀ r ∈ rows, ∀ q ∈ r, Bd Dn M q
theorem num_pos {q : Rat} (h : 0 < q) : 0 < q.num := by
  have h1 : 0 ≤ q.num := Rat.num_nonneg.mpr (Rat.le_of_lt h)
  have h2 : q.num ≠ 0 := fun z => Rat.ne_of_gt h (Rat.num_eq_zero.mp z)
  omega
/-- a quotient by a pivot -/
theorem bd_div {Dn M : Nat} {q p : Rat} (d0 : 0 < Dn) (hq : Bd Dn M q) (hp : Bd Dn M p) (p0 : 0 < p) (p1 : p ≤ 1) : ∃ Pn, 0 < Pn ∧ Pn ≤ Dn ∧ p * (Dn : Rat) = (Pn : Rat) ∧ ∀ q, Bd Dn M q → Bd Pn (M * Dn) (q / p) := by
  obtain ⟨⟨z, hz⟩, _, _⟩ := hp
  have hD : (0 : Rat) < (Dn : Rat) := natCast_pos d0
  have zpos : (0 : Rat) < (z : Rat) := by rw [← hz]; exact Rat.mul_pos p0 hD
  have zp : 0 < z := by exact_mod_cast zpos
  have zle : (z : Rat) ≤ (Dn : Rat) := by
    rw [← hz]
    have := Rat.mul_le_mul_of_nonneg_right p1 (Rat.le_of_lt hD)
    rwa [Rat.one_mul] at this
  have zle' : z ≤ (Dn : Int) := by exact_mod_cast (show (z : Rat) ≤ ((Dn : Int) : Rat) by rw [Rat.intCast_natCast]; exact zle)
  have ez : ((z.toNat : Nat) : Rat) = (z : Rat) := by
    have : ((z.toNat : Nat) : Int) = z := Int.toNat_of_nonneg (by omega)
    exact_mod_cast this
  refine ⟨z.toNat, by omega, by omega, by rw [ez, hz], fun q hq => ?_⟩
  obtain ⟨⟨y, hy⟩, l1, l2⟩ := hq
  have pne : p ≠ 0 := Rat.ne_of_gt p0
  have key : q / p * ((z.toNat : Nat) : Rat) = q * (Dn : Rat) := by
    rw [ez, ← hz, ← Rat.mul_assoc, Rat.div_mul_cancel pne]
  refine ⟨⟨y, by rw [key, hy]⟩, ?_, ?_⟩
  · -- |q / p| <= M Dn, for 1 / p <= Dn
    have hle : (1 : Rat) ≤ p * (Dn : Rat) := by
      rw [hz]
      have : (1 : Int) ≤ z := by omega
      exact_mod_cast this
    apply Rat.not_lt.mp
    intro w
    have w2 := (Rat.div_lt_iff p0).mp w
    have hM : 0 ≤ (M : Rat) := Rat.natCast_nonneg
    have e := Rat.mul_le_mul_of_nonneg_left hle hM
    push_cast at w2
    grind
  · have hle : (1 : Rat) ≤ p * (Dn : Rat) := by
      rw [hz]
      have : (1 : Int) ≤ z := by omega
      exact_mod_cast this
    apply Rat.not_lt.mp
    intro w
    have w2 := (Rat.lt_div_iff p0).mp w
    have hM : 0 ≤ (M : Rat) := Rat.natCast_nonneg
    have e := Rat.mul_le_mul_of_nonneg_left hle hM
    push_cast at w2
    grind
/-- the numbers of one turn are small enough -/
structure TurnSm (rows : Mx) (k : Nat) : Prop where
  e : ∀ r ∈ rows, ∀ q ∈ r, Sm q
  pn : (entry rows k k).num.natAbs < 2 ^ 4500
  d : ∀ q ∈ divRow rows k, Sm q
  f : ∀ r ∈ rows, ∀ g ∈ r, ∀ q ∈ divRow rows k, Sm (g * q)
theorem entry_mem {rows : Mx} {n i j : Nat} (h : Wide n rows) (hi : i < n) (hj : j ≤ n) : entry rows i j ∈ rows.getD i [] ∧ rows.getD i [] ∈ rows := by
  have h1 : rows.getD i [] ∈ rows := getD_mem (by rw [h.1]; exact hi)
  exact ⟨getD_mem (by rw [h.2 _ h1]; omega), h1⟩
theorem turn_sm {rows : Mx} {n k : Nat} (h : Wide n rows) (hk : k < n) (t : TurnOk rows k) : TurnSm rows k := by
  obtain ⟨p0, p1, Dn, M, d0, dd, mm, m1, hb⟩ := t
  obtain ⟨e1, e2⟩ := entry_mem h hk (j := k) (by omega)
  have bp := hb _ e2 _ e1
  obtain ⟨Pn, P0, PD, _, hdiv⟩ := bd_div d0 bp bp p0 p1
  have D4 : Dn < 2 ^ 4400 := Nat.lt_of_le_of_lt (Nat.le_mul_of_pos_left Dn d0) dd
  have q1 : ∀ A E, A ≤ M + M * M * Dn → E ≤ Dn * Dn → A * E < 2 ^ 400000 := fun A E hA hE => Nat.lt_of_le_of_lt (Nat.mul_le_mul hA hE) mm
  have l1 : M * Dn ≤ M * M * Dn := Nat.mul_le_mul_right Dn (Nat.le_mul_of_pos_left M m1)
  have l2 : Dn ≤ Dn * Dn := Nat.le_mul_of_pos_left Dn d0
  have l3 : Dn * Pn ≤ Dn * Dn := Nat.mul_le_mul_left Dn PD
  refine ⟨fun r hr q hq => (hb r hr q hq).sm d0 D4 (q1 _ _ (by omega) l2), ?_, fun q hq => ?_, fun r hr g hg q hq => ?_⟩
  · -- the pivot's numerator is no more than its denominator
    have hn := num_pos p0
    have : (entry rows k k).num ≤ ((entry rows k k).den : Int) := by
      have e3 : (((entry rows k k).num : Int) : Rat) = entry rows k k * ((entry rows k k).den : Rat) := by
        have e : entry rows k k = ((entry rows k k).num : Rat) / ((entry rows k k).den : Rat) := by rw [← Rat.mkRat_eq_div, Rat.mkRat_self]
        have e4 : ((entry rows k k).num : Rat) / ((entry rows k k).den : Rat) * ((entry rows k k).den : Rat) = (entry rows k k).num := Rat.div_mul_cancel (Rat.ne_of_gt (natCast_pos (entry rows k k).den_pos))
        rw [← e] at e4
        exact e4.symm
      have e5 : (((entry rows k k).num : Int) : Rat) ≤ ((entry rows k k).den : Rat) := by
        rw [e3]
        have := Rat.mul_le_mul_of_nonneg_right p1 (Rat.le_of_lt (natCast_pos (entry rows k k).den_pos))
        rwa [Rat.one_mul] at this
      exact_mod_cast (show (((entry rows k k).num : Int) : Rat) ≤ (((entry rows k k).den : Int) : Rat) by rw [Rat.intCast_natCast]; exact e5)
    have hd := bp.den d0
    exact Nat.lt_of_le_of_lt (show (entry rows k k).num.natAbs ≤ Dn by omega) (Nat.lt_of_lt_of_le D4 (Nat.pow_le_pow_right (by decide) (by decide)))
  · unfold divRow at hq
    obtain ⟨y, hy, rfl⟩ := List.mem_map.mp hq
    exact (hdiv y (hb _ e2 y hy)).sm P0 (Nat.lt_of_le_of_lt PD D4) (q1 _ _ (by omega) (Nat.le_trans PD l2))
  · unfold divRow at hq
    obtain ⟨y, hy, rfl⟩ := List.mem_map.mp hq
    have := (hb r hr g hg).mul (hdiv y (hb _ e2 y hy))
    refine this.sm (Nat.mul_pos d0 P0) (Nat.lt_of_le_of_lt l3 dd) (q1 _ _ ?_ l3)
    rw [← Nat.mul_assoc]
    omega
section
variable {P : Program} {w : World} {K : PySem.W.Frag} {mg : Str → Option Value} {base : Heap}
def RSolved (o : O) (ds : List D) (r : D) : Prop := ∃ (rows : Mx) (n : Nat), o = .lst (rows.map lstQ) ∧ ds = [] ∧ Wide n rows ∧ n ≤ 7 ∧ (∀ k, k < n → TurnOk (elimN rows k) k) ∧ r = lstQ (lastCol (elimN rows n))
abbrev C_solved (P : Program) (w : World) (K : PySem.W.Frag) (mg : Str → Option Value) (base : Heap) : Prop := Fn P w K mg base "solved" ["rows"] 4 (SpC ⟨P, w, K⟩ RSolved) []
/-- the rows behind the first j turns of the inner loop -/
def midRows (rows : Mx) (k j : Nat) : Mx := (List.range rows.length).map fun i => if i < j ∨ i = k then elimRow rows k i else rows.getD i []
theorem midRows_len (rows : Mx) (k j : Nat) : (midRows rows k j).length = rows.length := by unfold midRows; simp
theorem mid_get {rows : Mx} {k j i : Nat} (h : i < rows.length) : (midRows rows k j)[i]? = some (if i < j ∨ i = k then elimRow rows k i else rows.getD i []) := by
  unfold midRows
  rw [List.getElem?_map, List.getElem?_range h]; rfl
theorem mid_zero {rows : Mx} {k : Nat} (hk : k < rows.length) : rows.set k (divRow rows k) = midRows rows k 0 := by
  apply List.ext_getElem?
  intro i
  by_cases hi : i < rows.length
  · rw [mid_get hi, get_set]
    by_cases e : k = i
    · subst e
      rw [if_pos ⟨rfl, hi⟩, if_pos (.inr rfl)]
      unfold elimRow
      rw [if_pos rfl]
    · rw [if_neg (fun z => e z.1), if_neg (by rintro (z | z); omega; exact e z.symm)]
      exact getD_some hi
  · rw [List.getElem?_eq_none (by rw [List.length_set]; omega), List.getElem?_eq_none (by rw [midRows_len]; omega)]
theorem mid_succ {rows : Mx} {k j : Nat} (hj : j < rows.length) (hjk : j ≠ k) : (midRows rows k j).set j (elimRow rows k j) = midRows rows k (j + 1) := by
  apply List.ext_getElem?
  intro i
  by_cases hi : i < rows.length
  · rw [mid_get hi, get_set, mid_get hi]
    by_cases e : j = i
    · subst e
      rw [if_pos ⟨rfl, by rw [midRows_len]; exact hi⟩, if_pos (.inl (Nat.lt_succ_self j))]
    · rw [if_neg (fun z => e z.1)]
      by_cases q : i < j ∨ i = k
      · rw [if_pos q, if_pos (by rcases q with q | q; exact .inl (by omega); exact .inr q)]
      · rw [if_neg q, if_neg (by rintro (z | z); exact q (.inl (by omega)); exact q (.inr z))]
  · rw [List.getElem?_eq_none (by rw [List.length_set, midRows_len]; omega), List.getElem?_eq_none (by rw [midRows_len]; omega)]
theorem mid_same {rows : Mx} {k j : Nat} (hj : j < rows.length) (h : j = k ∨ elimRow rows k j = rows.getD j []) : midRows rows k j = midRows rows k (j + 1) := by
  apply List.ext_getElem?
  intro i
  by_cases hi : i < rows.length
  · rw [mid_get hi, mid_get hi]
    by_cases q : i < j ∨ i = k
    · rw [if_pos q, if_pos (by rcases q with q | q; exact .inl (by omega); exact .inr q)]
    · rw [if_neg q]
      by_cases e : i = j
      · subst e
        rcases h with h | h
        · exact absurd (.inr h) q
        · rw [if_pos (.inl (Nat.lt_succ_self i)), h]
      · rw [if_neg (by rintro (z | z); exact q (.inl (by omega)); exact q (.inr z))]
  · rw [List.getElem?_eq_none (by rw [midRows_len]; omega), List.getElem?_eq_none (by rw [midRows_len]; omega)]
theorem mid_full (rows : Mx) (k : Nat) : midRows rows k rows.length = elimStep rows k := by
  unfold midRows elimStep
  apply List.map_congr_left
  intro i hi
  rw [if_pos (.inl (List.mem_range.mp hi))]
theorem map_set_lstQ (rows : Mx) (i : Nat) (v : List Rat) : (rows.map lstQ).set i (lstQ v) = (rows.set i v).map lstQ := by rw [List.map_set]
theorem rows_at {rows : Mx} {i : Nat} (h : i < rows.length) : atI (rows.map lstQ) (i : Int) = some (lstQ (rows.getD i [])) := atI_map (atI_n (getD_some h))
theorem row_at {r : List Rat} {j : Nat} (h : j < r.length) : atD (lstQ r) (j : Int) = some (qd (r.getD j 0)) := atD_lst (atI_map (atI_n (getD_some h)))
theorem sc_solved : FnScope ["rows", "many", "at", "pivot", "place", "one", "factor", "more", "row"] ["rows"] (defScope s_solved) := ⟨rfl, rfl, rfl, by decide +kernel, rfl, by decide +kernel, by decide +kernel⟩
end
end WL
set_option Elab.async false
set_option linter.all false
set_option maxRecDepth 100000
set_option maxHeartbeats 4000000
namespace WL
open PySem PySem.Spec PyProof.Rows L2
section
variable {P : Program} {w : World} {K : PySem.W.Frag} {mg : Str → Option Value} {base : Heap}
theorem fn_solved (T : Tx K mg) (F : Dfn K mg "solved" s_solved []) (Fover : C_over P w K mg base) (Fminus : C_minus P w K mg base) (Ftimes : C_times P w K mg base) : C_solved P w K mg base := by
  have sc := sc_solved
  refine F.fn (fun _ _ _ _ _ _ us hl => match us, hl with | [_], _ => rfl) fun f fd F => ?_
  refine fn_con F sc (by rintro o ds r ⟨_, _, _, rfl, _⟩; rfl) (by decide) fun cdv A outer s H l o ds r hr hR => ?_
  obtain ⟨rows0, n, rfl, rfl, hw, h7, ht, rfl⟩ := hR
  have hlen0 := hw.1
  refine sds_cons (sd_asg (d := nD n) 1 (PD.is (pd_lenO 0 T.len rfl) (by rw [List.length_map, hlen0])) ?_ sc.nd)
  refine sds_cons (sd_for (fun k ρ => ∃ e2 e3 e4 e6, ρ = [.own l (.lst ((elimN rows0 k).map lstQ)), .d (nD n), e2, e3, e4, .no, e6, .no, .no]) (src_range1 T.range (pd_var 1 rfl) (by omega)) ⟨_, _, _, _, rfl⟩ (fun k d ρ hd hI => ?_) (fun ρ hI => ?_))
  · obtain ⟨e2, e3, e4, e6, rfl⟩ := hI
    have hk : k < n := by have := (List.getElem?_eq_some_iff.mp hd).1; rw [rgFrom_len] at this; omega
    rw [rgFrom_get (by omega)] at hd
    cases hd
    rw [Int.zero_add]
    have tok := ht k hk
    have hwk := wide_N hw k (by omega)
    have tsm := turn_sm hwk hk tok
    have hst := elimN_succ rows0 k
    rw [hst]
    generalize elimN rows0 k = rows at *
    obtain ⟨wl, wr⟩ := hwk
    have rlen : ∀ i, i < n → (rows.getD i []).length = n + 1 := fun i hi => wr _ (getD_mem (by omega))
    have rmem : ∀ i, i < n → rows.getD i [] ∈ rows := fun i hi => getD_mem (by omega)
    have pne : (entry rows k k).num ≠ 0 := by have := num_pos tok.pos; omega
    refine ⟨_, _, (gd_name 2 sc.nd), ?_⟩
    refine SDs.drop 4 ?_
    -- pivot
    refine sds_cons (sd_asg (d := nD k) 3 (pd_at (d := nD k) (PL.lst (pl_lc (own := [("place", 4)]) (lcr_filter (src_range2 T.range (pd_var 2 rfl) (pd_var 1 rfl) (by omega)) (fun d => d) (fun d => match d with | .int i => !decide ((entry rows i.toNat k).num = 0) | _ => false) [4] [4] (by decide) (no1 rfl) ?_ (fun d hd => ?_)) sc.nd rfl)) pd_int (atD_lst ?_)) ?_ sc.nd)
    · rw [rgFrom_len]; omega
    · obtain ⟨i, hi, rfl⟩ := List.mem_map.mp hd
      have hi := List.mem_range.mp hi
      have hik : k + i < n := by omega
      have eki : (k : Int) + (i : Int) = ((k + i : Nat) : Int) := by omega
      rw [eki]
      refine ⟨_, fun _ _ _ _ _ => (gd_name 4 sc.nd), fun _ _ _ _ _ => PTD.is (pt_ne (pd_at (d := .int (entry rows (k + i) k).num) (pd_at (d := qd (entry rows (k + i) k)) (pd_atO (d := lstQ (rows.getD (k + i) [])) 0 rfl (pd_var 4 rfl) (rows_at (by omega)) rfl) (pd_var 2 rfl) (row_at (by rw [rlen _ hik]; omega))) pd_int rfl) pd_int) ?_, fun ht _ _ _ _ _ => (pd_var 4 rfl), rfl⟩
      show (!decide ((entry rows (k + i) k).num = 0)) = !decide ((entry rows ((k + i : Nat) : Int).toNat k).num = 0)
      rw [Int.toNat_natCast]
    · have hrg : rgFrom (k : Int) (((n : Nat) : Int) - (k : Nat)).toNat = nD k :: rgFrom ((k : Int) + 1) (n - k - 1) := by
        have e : (((n : Nat) : Int) - (k : Nat)).toNat = (n - k - 1) + 1 := by omega
        rw [e]
        unfold rgFrom
        rw [List.range_succ_eq_map, List.map_cons, List.map_map]
        have e0 : D.int ((k : Int) + ((0 : Nat) : Int)) = nD k := by
          show D.int _ = D.int _
          congr 1
        rw [e0]
        refine congrArg (nD k :: ·) (List.map_congr_left fun i _ => ?_)
        show D.int ((k : Int) + ((i + 1 : Nat) : Int)) = D.int ((k : Int) + 1 + (i : Int))
        congr 1
        omega
      rw [hrg, List.filter_cons]
      have ht0 : (match nD k with | .int i => !decide ((entry rows i.toNat k).num = 0) | _ => false) = true := by
        show (!decide ((entry rows ((k : Nat) : Int).toNat k).num = 0)) = true
        rw [Int.toNat_natCast, decide_eq_false pne]; rfl
      rw [if_pos ht0, List.map_cons]
      exact atI_n (j := 0) rfl
    -- the swap
    have ixk : ixN (rows.map lstQ).length (k : Int) = some k := ixN_n (by rw [List.length_map]; omega)
    refine sds_cons (sd_asgG (d := .tup [lstQ (rows.getD k []), lstQ (rows.getD k [])]) (pd_tup (pad_cons (pd_atO (d := lstQ (rows.getD k [])) 0 rfl (pd_var 3 rfl) (rows_at (by omega)) rfl) (pad_cons (pd_atO (d := lstQ (rows.getD k [])) 0 rfl (pd_var 2 rfl) (rows_at (by omega)) rfl) pad_nil)) (lenOk rfl)) (gd_tup2 (gd_sub (m := k) 0 rfl (pd_var 2 rfl) ixk) (gd_sub (m := k) 0 rfl (pd_var 3 rfl) (by rw [List.length_set]; exact ixk))) ?_)
    have hsame : ((rows.map lstQ).set k (lstQ (rows.getD k []))).set k (lstQ (rows.getD k [])) = rows.map lstQ := by
      apply List.ext_getElem?
      intro i
      rw [get_set, get_set, List.length_set, List.length_map]
      by_cases e : k = i
      · subst e
        rw [if_pos ⟨rfl, by omega⟩, List.getElem?_map, getD_some (d := []) (show k < rows.length by omega)]; rfl
      · rw [if_neg (fun z => e z.1), if_neg (fun z => e z.1)]
    show SDs _ [.own l (.lst (((rows.map lstQ).set k (lstQ (rows.getD k []))).set k (lstQ (rows.getD k [])))), _, _, _, _, _, _, _, _] _ _
    rw [hsame]
    -- rows[at] = ..
    refine sds_cons (sd_asgG (d := lstQ (divRow rows k)) (PL.lst (pl_lc (own := [("one", 5)]) (lcr_to (xs := (rows.getD k []).map qd) ((divRow rows k).map qd) (src_list (pd_atO (d := lstQ (rows.getD k [])) 0 rfl (pd_var 2 rfl) (rows_at (by omega)) rfl)) [5] [5] (by decide) (no1 rfl) ?_ ?_ (fun i d y hd hy => ?_)) sc.nd rfl)) (gd_sub (m := k) 0 rfl (pd_var 2 rfl) ixk) ?_)
    · unfold divRow; simp
    · rw [List.length_map, rlen k hk]; omega
    · rw [List.getElem?_map] at hd
      obtain ⟨q, hq, rfl⟩ := Option.map_eq_some_iff.mp hd
      unfold divRow at hy
      rw [List.getElem?_map, List.getElem?_map, hq] at hy
      cases hy
      exact ⟨_, fun _ _ _ _ _ => (gd_name 5 sc.nd), fun _ _ _ _ _ => (pd_call Fover (hr.mono (by decide)) dfl_nil (pad_cons (pd_var 5 rfl) (pad_cons (pd_at (d := qd (entry rows k k)) (pd_atO (d := lstQ (rows.getD k [])) 0 rfl (pd_var 2 rfl) (rows_at (by omega)) rfl) (pd_var 2 rfl) (row_at (by rw [rlen k hk]; omega))) pad_nil)) ⟨q, entry rows k k, rfl, tsm.e _ (rmem k hk) q (List.mem_of_getElem? hq), tsm.e _ (rmem k hk) _ (entry_mem ⟨wl, wr⟩ hk (by omega)).1, tok.pos, tsm.pn, rfl⟩), rfl⟩
    have hm0 : (rows.map lstQ).set k (lstQ (divRow rows k)) = (midRows rows k 0).map lstQ := by rw [map_set_lstQ, mid_zero (by omega)]
    show SDs _ [.own l (.lst ((rows.map lstQ).set k (lstQ (divRow rows k)))), _, _, _, _, _, _, _, _] _ _
    rw [hm0]
    -- the other rows
    refine sds_one (sd_for (fun j ρ => ∃ e4 e6, ρ = [.own l (.lst ((midRows rows k j).map lstQ)), .d (nD n), .d (nD k), .d (nD k), e4, .no, e6, .no, .no]) (src_range1 T.range (pd_var 1 rfl) (by omega)) ⟨_, _, rfl⟩ (fun j d ρ hd hI => ?_) (fun ρ hI => ?_))
    · obtain ⟨e4, e6, rfl⟩ := hI
      have hj : j < n := by have := (List.getElem?_eq_some_iff.mp hd).1; rw [rgFrom_len] at this; omega
      rw [rgFrom_get (by omega)] at hd
      cases hd
      rw [Int.zero_add]
      have mlen := midRows_len rows k j
      refine ⟨_, _, (gd_name 4 sc.nd), ?_⟩
      by_cases hjk : j = k
      · subst hjk
        rw [← mid_same (by omega) (.inl rfl)]
        exact sds_one (sd_ifF (v := !decide (((j : Nat) : Int) = (j : Nat)) && false) (pt_and2 (pt_ne (pd_var 4 rfl) (pd_var 2 rfl)) (fun z => by simp at z)) (by simp) (sds_nil ⟨_, _, rfl⟩))
      · have mj : (midRows rows k j).getD j [] = rows.getD j [] := by
          rw [List.getD_eq_getElem?_getD, mid_get (by omega), if_neg (by rintro (z | z); omega; exact hjk z)]; rfl
        have mk : (midRows rows k j).getD k [] = divRow rows k := by
          rw [List.getD_eq_getElem?_getD, mid_get (by omega), if_pos (.inr rfl)]
          show elimRow rows k k = _
          unfold elimRow
          rw [if_pos rfl]
        have gj : atI ((midRows rows k j).map lstQ) (j : Int) = some (lstQ (rows.getD j [])) := by rw [← mj]; exact rows_at (by omega)
        have gk : atI ((midRows rows k j).map lstQ) (k : Int) = some (lstQ (divRow rows k)) := by rw [← mk]; exact rows_at (by omega)
        have ne1 : (!decide (((j : Nat) : Int) = (k : Nat))) = true := by rw [decide_eq_false (by omega)]; rfl
        refine sds_one (sd_if (v := true && !decide ((entry rows j k).num = 0)) (pt_and2 (p := true) (PTD.is (pt_ne (pd_var 4 rfl) (pd_var 2 rfl)) ne1) (fun _ => pt_ne (pd_at (d := .int (entry rows j k).num) (pd_at (d := qd (entry rows j k)) (pd_atO (d := lstQ (rows.getD j [])) 0 rfl (pd_var 4 rfl) gj rfl) (pd_var 2 rfl) (row_at (by rw [rlen j hj]; omega))) pd_int rfl) pd_int)) (fun hc => ?_) (fun hc => ?_))
        · have fne : entry rows j k ≠ 0 := fun z => by rw [z] at hc; simp at hc
          have her : elimRow rows k j = subRow (rows.getD j []) (divRow rows k) k := by unfold elimRow; rw [if_neg hjk, if_neg fne]
          have dl : (divRow rows k).length = n + 1 := by unfold divRow; rw [List.length_map, rlen k hk]
          refine sds_cons (sd_asg (d := qd (entry rows j k)) 6 (pd_at (d := qd (entry rows j k)) (pd_atO (d := lstQ (rows.getD j [])) 0 rfl (pd_var 4 rfl) gj rfl) (pd_var 2 rfl) (row_at (by rw [rlen j hj]; omega))) ?_ sc.nd)
          refine sds_one (sd_asgG (d := lstQ (subRow (rows.getD j []) (divRow rows k) k)) (PL.lst (pl_lc (own := [("one", 5), ("more", 7)]) (lcr_to ((subRow (rows.getD j []) (divRow rows k) k).map qd) (src_zipL (xs := (rows.getD j []).map qd) (ys := (divRow rows k).map qd) T.zip (pd_atO (d := lstQ (rows.getD j [])) 0 rfl (pd_var 4 rfl) gj rfl) (pd_atO (d := lstQ (divRow rows k)) 0 rfl (pd_var 2 rfl) gk rfl)) [5, 7] [5, 7] (by decide) (no2 rfl rfl) ?_ ?_ (fun i d y hd hy => ?_)) sc.nd rfl)) (gd_sub (m := j) 0 rfl (pd_var 4 rfl) (ixN_n (by rw [List.length_map]; omega))) ⟨E.d (nD j), E.d (qd (entry rows j k)), ?_⟩)
          · rw [zipD_len, List.length_map, List.length_map, List.length_map]
            unfold subRow
            rw [List.length_zipWith]
          · rw [zipD_len, List.length_map, List.length_map, rlen j hj]; omega
          · rw [List.getElem?_map] at hy
            obtain ⟨z, hz, rfl⟩ := Option.map_eq_some_iff.mp hy
            unfold subRow at hz
            rw [List.getElem?_zipWith] at hz
            cases ha : (rows.getD j [])[i]? with
            | none => rw [ha] at hz; simp at hz
            | some a =>
              cases hb' : (divRow rows k)[i]? with
              | none => rw [ha, hb'] at hz; simp at hz
              | some b =>
                rw [ha, hb'] at hz
                simp only [Option.some.injEq] at hz
                subst hz
                rw [zipD_get (d := qd a) (d' := qd b) (by rw [List.getElem?_map, ha]; rfl) (by rw [List.getElem?_map, hb']; rfl)] at hd
                cases hd
                have fm := tsm.f _ (rmem j hj) _ (entry_mem ⟨wl, wr⟩ hj (j := k) (by omega)).1 b (List.mem_of_getElem? hb')
                exact ⟨_, fun _ _ _ _ _ => (gd_tup2 (gd_name 5 sc.nd) (gd_name 7 sc.nd)), fun _ _ _ _ _ => (pd_call Fminus (hr.mono (by decide)) dfl_nil (pad_cons (pd_var 5 rfl) (pad_cons (pd_call (r := qd (entry rows j k * b)) Ftimes (hr.mono (by decide)) dfl_nil (pad_cons (pd_var 6 rfl) (pad_cons (pd_var 7 rfl) pad_nil)) ⟨_, _, rfl, tsm.e _ (rmem j hj) _ (entry_mem ⟨wl, wr⟩ hj (j := k) (by omega)).1, tsm.d b (List.mem_of_getElem? hb'), rfl⟩) pad_nil)) ⟨a, _, rfl, tsm.e _ (rmem j hj) a (List.mem_of_getElem? ha), fm, rfl⟩), rfl⟩
          · rw [← mid_succ (by omega) hjk, her, ← map_set_lstQ]
            rfl
        · have fz : entry rows j k = 0 := by
            apply Rat.num_eq_zero.mp
            cases hq : decide ((entry rows j k).num = 0) with
            | true => exact of_decide_eq_true hq
            | false => rw [hq] at hc; cases hc
          have her : elimRow rows k j = rows.getD j [] := by unfold elimRow; rw [if_neg hjk, if_pos fz]
          rw [← mid_same (by omega) (.inr her)]
          exact sds_nil ⟨_, _, rfl⟩
    · obtain ⟨e4, e6, rfl⟩ := hI
      rw [rgFrom_len, show (((n : Nat) : Int)).toNat = n by omega, ← wl, mid_full]
      exact ⟨_, _, _, _, by rw [wl]⟩
  · obtain ⟨e2, e3, e4, e6, rfl⟩ := hI
    have hwn := wide_N hw n (Nat.le_refl _)
    rw [rgFrom_len, show (((n : Nat) : Int)).toNat = n by omega]
    generalize elimN rows0 n = rows at *
    refine sds_one (sd_ret (PL.lst (pl_lc (own := [("row", 8)]) (lcr_to (xs := rows.map lstQ) ((lastCol rows).map qd) (src_list (PD.is (pd_frz (o := .lst (rows.map lstQ)) 0 rfl) rfl)) [8] [8] (by decide) (no1 rfl) ?_ ?_ (fun i d y hd hy => ?_)) sc.nd rfl)) rfl)
    · unfold lastCol; simp
    · rw [List.length_map, hwn.1]; omega
    · rw [List.getElem?_map] at hd
      obtain ⟨r, hrr, rfl⟩ := Option.map_eq_some_iff.mp hd
      unfold lastCol at hy
      rw [List.getElem?_map, List.getElem?_map, hrr] at hy
      cases hy
      have hl := hwn.2 r (List.mem_of_getElem? hrr)
      have hlast : r.getLast? = some (r.getLastD 0) := by
        rw [List.getLastD_eq_getLast?]
        cases h : r.getLast? with
        | none => rw [List.getLast?_eq_none_iff] at h; rw [h] at hl; simp at hl
        | some y => rfl
      exact ⟨_, fun _ _ _ _ _ => (gd_name 8 sc.nd), fun _ _ _ _ _ => (pd_at (d := qd (r.getLastD 0)) (pd_var 8 rfl) (pd_neg pd_int) (atD_lst (atI_map (atI_last hlast)))), rfl⟩
end
end WL
set_option Elab.async false
set_option linter.all false
set_option maxRecDepth 100000
set_option maxHeartbeats 4000000
namespace WL
open PySem PySem.Spec PyProof.Rows L2
theorem copen_bd {c : Cst} {k D' M' : Nat} (hc : CoOk c) (hk : InC c k) (d0 : 0 < D') (dv : 2 ∣ D') (m32 : 32 ≤ M') (hb : ∀ q ∈ c.r.vo, Bd D' M' q) : ∃ e, 0 < e ∧ e ≤ 8 ∧ ∀ q ∈ copenV c k, Bd (D' * e) (M' * 6) q := by
  have hl := hc.ok.len
  have hp := hc.ok.pos
  have setok : ∀ (i : Nat) (v : Rat), Bd 2 32 v → ∀ q ∈ c.r.vo.set i v, Bd (D' * 1) (M' * 6) q := fun i v vb q hq => by
    rw [Nat.mul_one]
    obtain ⟨e, he⟩ := dv
    rcases mem_set hq with z | z
    · exact (hb q z).mono (by omega)
    · rw [z, he]
      exact (vb.wide (E := e)).mono (by omega)
  by_cases k0 : k = 0
  · subst k0
    have hsome : c.lf.isSome = true := by
      rcases hk with z | z | z
      · exact z.2
      · omega
      · omega
    have ha := hc.a4 _ (getD_mem (xs := c.r.ar) (i := 0) (d := 0) (by omega))
    obtain ⟨p1, p2, _, _⟩ := ht_prod hc.l hsome ha
    have e : copenV c 0 = c.r.vo.set 0 (c.lf.getD 0 * ((c.r.ar.getD 0 0 : Nat) : Rat)) := by unfold copenV; rw [if_pos rfl]
    rw [e]
    exact ⟨1, by decide, by decide, setok _ _ p2⟩
  · by_cases kn : k = c.r.ar.length
    · have hsome : c.rt.isSome = true := by
        rcases hk with z | z | z
        · exact absurd z.1 k0
        · exact z.2
        · omega
      have ha := hc.a4 _ (getD_mem (xs := c.r.ar) (i := c.r.ar.length - 1) (d := 0) (by omega))
      obtain ⟨p1, p2, _, _⟩ := ht_prod hc.r hsome ha
      have e : copenV c k = c.r.vo.set (c.r.ar.length - 1) (c.rt.getD 0 * ((c.r.ar.getD (c.r.ar.length - 1) 0 : Nat) : Rat)) := by unfold copenV; rw [if_neg k0, if_pos kn]
      rw [e]
      exact ⟨1, by decide, by decide, setok _ _ p2⟩
    · have k1 : 1 ≤ k ∧ k < c.r.ar.length := by
        rcases hk with z | z | z
        · exact absurd z.1 k0
        · exact absurd z.1 kn
        · exact z
      have e : copenV c k = openV c.r.ar c.r.vo k 1 := by unfold copenV; rw [if_neg k0, if_neg kn]
      have m1 := hc.a4 _ (getD_mem (xs := c.r.ar) (i := k - 1) (d := 0) (by omega))
      have m2 := hc.a4 _ (getD_mem (xs := c.r.ar) (i := k) (d := 0) (by omega))
      have n1 := (hc.ok.ar _ (getD_mem (xs := c.r.ar) (i := k - 1) (d := 0) (by omega))).1
      have n2 := (hc.ok.ar _ (getD_mem (xs := c.r.ar) (i := k) (d := 0) (by omega))).1
      have v1 := hb _ (getD_mem (xs := c.r.vo) (i := k - 1) (d := 0) (by omega))
      have v2 := hb _ (getD_mem (xs := c.r.vo) (i := k) (d := 0) (by omega))
      have bp := frac_bd (a := c.r.ar.getD (k - 1) 0) (b := c.r.ar.getD k 0) (by omega)
      rw [e]
      refine ⟨c.r.ar.getD (k - 1) 0 + c.r.ar.getD k 0, by omega, by omega, ?_⟩
      have b1 := v1.add v2
      have b2 := b1.mul bp
      rw [Nat.mul_one] at b2
      have b3 := b2.sub (v1.wide (E := c.r.ar.getD (k - 1) 0 + c.r.ar.getD k 0))
      have b4 := b3.mul bd_one
      rw [Nat.mul_one, Nat.mul_one] at b4
      have b5 := (v1.wide (E := c.r.ar.getD (k - 1) 0 + c.r.ar.getD k 0)).add b4
      have b6 := (b1.wide (E := c.r.ar.getD (k - 1) 0 + c.r.ar.getD k 0)).sub b5
      exact openV_mem (S := fun q => Bd (D' * (c.r.ar.getD (k - 1) 0 + c.r.ar.getD k 0)) (M' * 6) q) (fun q hq => ((hb q hq).wide (E := c.r.ar.getD (k - 1) 0 + c.r.ar.getD k 0)).mono (by omega)) (b5.mono (by omega)) (b6.mono (by omega))
def inflStep (st : Rat × Cst) (k : Nat) : Rat × Cst := (if k = 0 then st.1 + ((copen st.2 k).r.vo.getD 0 0 - st.2.r.vo.getD 0 0) else st.1, copen st.2 k)
def inflSt (c : Cst) (o : List Nat) : Rat × Cst := o.foldl inflStep (0, c)
def inflowV (c : Cst) (o : List Nat) : Rat := (inflSt c o).1
theorem infl_snd : ∀ (o : List Nat) (q : Rat) (c : Cst), (o.foldl inflStep (q, c)).2 = afterC c o
  | [], _, _ => rfl
  | k :: o, q, c => infl_snd o _ (copen c k)
structure InfOk (c : Cst) (k D M : Nat) (st : Rat × Cst) : Prop where
  ok : CoOk st.2
  ex : ∃ D', 0 < D' ∧ 2 ∣ D' ∧ D' ≤ D * 8 ^ k ∧ (∀ q ∈ st.2.r.vo, Bd D' (M * 6 ^ k) q) ∧ Bd D' (2 * (M * 6 ^ k)) st.1
theorem infl_step {c : Cst} {o : List Nat} {D M : Nat} (h : AftOk c o D M) (m32 : 32 ≤ M) (hex : ∃ D', 0 < D' ∧ 2 ∣ D' ∧ D' ≤ D ∧ ∀ q ∈ c.r.vo, Bd D' M q) : ∀ k, k ≤ o.length → InfOk c k D M (inflSt c (o.take k)) := fun k => by
  induction k with
  | zero =>
    intro _
    rw [List.take_zero]
    refine ⟨h.ok, ?_⟩
    obtain ⟨D', a, b, d, e⟩ := hex
    refine ⟨D', a, b, by simpa using d, fun q hq => by have := e q hq; simpa using this, ?_⟩
    have := (bd_int (i := 0) (M := 2 * (M * 6 ^ 0)) (by simp)).wide (E := D')
    rw [Nat.one_mul] at this
    exact this
  | succ k ih =>
    intro hk
    obtain ⟨h1, D', a, b, d, e, g⟩ := ih (by omega)
    have eo := List.getElem?_eq_getElem (show k < o.length by omega)
    have hv : inflSt c (o.take (k + 1)) = inflStep (inflSt c (o.take k)) o[k] := foldl_take_succ _ _ eo
    have hs : (inflSt c (o.take k)).2 = afterC c (o.take k) := infl_snd _ _ _
    have hin : InC (inflSt c (o.take k)).2 o[k] := by rw [hs]; exact inC_after (h.w _ (List.getElem_mem _))
    have ok2 : CoOk (copen (inflSt c (o.take k)).2 o[k]) := by
      have := (aft_step h (k + 1) hk).1
      have e2 : afterC c (o.take (k + 1)) = copen (afterC c (o.take k)) o[k] := foldl_take_succ _ _ eo
      rw [e2] at this
      rw [hs]; exact this
    rw [hv]
    generalize inflSt c (o.take k) = st at *
    have m32' : 32 ≤ M * 6 ^ k := Nat.le_trans m32 (Nat.le_mul_of_pos_right _ (Nat.pow_pos (by decide)))
    obtain ⟨x, x0, x8, hx⟩ := copen_bd h1 hin a b m32' e
    have pk : M * 6 ^ (k + 1) = M * 6 ^ k * 6 := by rw [Nat.pow_succ, Nat.mul_assoc]
    have dk : D * 8 ^ (k + 1) = D * 8 ^ k * 8 := by rw [Nat.pow_succ, Nat.mul_assoc]
    refine ⟨ok2, D' * x, Nat.mul_pos a x0, Nat.dvd_trans b (Nat.dvd_mul_right _ _), by rw [dk]; exact Nat.mul_le_mul d x8, by rw [pk]; exact hx, ?_⟩
    have gw := (g.wide (E := x))
    unfold inflStep
    rw [pk]
    by_cases z : o[k] = 0
    · simp only [z, if_true]
      have l1 : 0 < (copenV st.2 o[k]).length := by
        have := ok2.ok.len
        have hp := ok2.ok.pos
        show 0 < (copen st.2 o[k]).r.vo.length
        omega
      have l2 : 0 < st.2.r.vo.length := by have := h1.ok.len; have := h1.ok.pos; omega
      have q1 := hx _ (getD_mem (xs := copenV st.2 o[k]) (i := 0) (d := 0) l1)
      have q2 := (e _ (getD_mem (xs := st.2.r.vo) (i := 0) (d := 0) l2)).wide (E := x)
      rw [z] at q1
      exact (gw.add (q1.sub q2)).mono (by omega)
    · simp only [z, if_false]
      exact gw.mono (by omega)
section
variable {P : Program} {w : World} {K : PySem.W.Frag} {mg : Str → Option Value} {base : Heap}
def RInflow (K : PySem.W.Frag) (ds : List D) (r : D) : Prop := ∃ (c : Cst) (o : List Nat) (Dn M : Nat), ds = [coastD K c, .lst (o.map nD)] ∧ AftOk c o Dn M ∧ 32 ≤ M ∧ (∃ D', 0 < D' ∧ 2 ∣ D' ∧ D' ≤ Dn ∧ ∀ q ∈ c.r.vo, Bd D' M q) ∧ r = qd (inflowV c o)
abbrev C_inflow (P : Program) (w : World) (K : PySem.W.Frag) (mg : Str → Option Value) (base : Heap) : Prop := Fn P w K mg base "inflow" ["coast", "order"] 9 (SpP ⟨P, w, K⟩ (RInflow K)) []
theorem sc_inflow : FnScope ["coast", "order", "found", "weir", "late"] ["coast", "order"] (defScope s_inflow) := ⟨rfl, rfl, rfl, by decide +kernel, rfl, by decide +kernel, by decide +kernel⟩
theorem fn_inflow (T : Tx K mg) (F : Dfn K mg "inflow" s_inflow []) (Mop : M_copened P w K mg base) (Fplus : C_plus P w K mg base) (Fminus : C_minus P w K mg base) : C_inflow P w K mg base := by
  have sc := sc_inflow
  refine F.fn (fun _ _ _ _ _ _ us hl => match us, hl with | [_, _], _ => rfl) fun f fd F => ?_
  refine fn_pure F sc (by rintro ds r ⟨_, _, _, _, rfl, _⟩; rfl) (by decide) fun cdv A outer s H ds r hr hR => ?_
  obtain ⟨c, o, Dn, M, rfl, ho, m32, hex, rfl⟩ := hR
  have step := infl_step ho m32 hex
  have hlen := ho.len
  refine sds_cons (sd_asg (d := qd 0) 2 (pd_tup (pad_cons pd_int (pad_cons pd_int pad_nil)) (lenOk rfl)) ?_ sc.nd)
  refine sds_cons (sd_for (fun k ρ => ∃ e3 e4, ρ = [.d (coastD K (inflSt c (o.take k)).2), .d (.lst (o.map nD)), .d (qd (inflSt c (o.take k)).1), e3, e4]) (src_list (pd_var 1 rfl)) ⟨_, _, rfl⟩ (fun k d ρ hd hI => ?_) (fun ρ hI => ?_))
  · obtain ⟨e3, e4, rfl⟩ := hI
    have hk : k < o.length := by have := (List.getElem?_eq_some_iff.mp hd).1; rw [List.length_map] at this; exact this
    have hko := List.getElem?_eq_getElem hk
    rw [List.getElem?_map, hko] at hd
    cases hd
    obtain ⟨h1, h2, D', M', h3, h4, h5⟩ := aft_open ho hk
    have hs : (inflSt c (o.take k)).2 = afterC c (o.take k) := infl_snd _ _ _
    rw [← hs] at h1 h2 h3
    have hfs : inflSt c (o.take (k + 1)) = inflStep (inflSt c (o.take k)) o[k] := foldl_take_succ _ _ hko
    obtain ⟨i1, E1, i2, i3, i4, i5, i6⟩ := step k (by omega)
    obtain ⟨j1, E2, j2, j3, j4, j5, j6⟩ := step (k + 1) (by omega)
    rw [hfs] at j1 j5 j6 ⊢
    generalize inflSt c (o.take k) = st at *
    have room : ∀ j, j ≤ 15 → Dn * 8 ^ j < 2 ^ 4400 ∧ 3 * (M * 6 ^ j * 6) * (Dn * 8 ^ j) < 2 ^ 400000 := fun j hj => by
      have a1 : 8 ^ j < 2 ^ 46 := Nat.lt_of_le_of_lt (Nat.pow_le_pow_right (by decide) hj) (by decide)
      have a2 : 6 ^ j * 6 < 2 ^ 46 := Nat.lt_of_le_of_lt (Nat.mul_le_mul_right 6 (Nat.pow_le_pow_right (by decide) hj)) (by decide)
      have b1 := mul_lt_pow ho.hD a1
      have b2 := mul_lt_pow ho.hM a2
      rw [← Nat.mul_assoc] at b2
      have b3 := mul_lt_pow (mul_lt_pow (show 3 < 2 ^ 2 by decide) b2) b1
      exact ⟨Nat.lt_of_lt_of_le b1 (Nat.pow_le_pow_right (by decide) (by omega)), Nat.lt_of_lt_of_le b3 (Nat.pow_le_pow_right (by decide) (by omega))⟩
    obtain ⟨r1, r2⟩ := room k (by omega)
    obtain ⟨r3, r4⟩ := room (k + 1) (by omega)
    have sm1 : ∀ {q B}, Bd E1 B q → B ≤ 3 * (M * 6 ^ k * 6) → Sm q := fun hb hB => hb.sm i2 (Nat.lt_of_le_of_lt i4 r1) (Nat.lt_of_le_of_lt (Nat.mul_le_mul hB i4) r2)
    have sm2 : ∀ {q B}, Bd E2 B q → B ≤ 3 * (M * 6 ^ (k + 1) * 6) → Sm q := fun hb hB => hb.sm j2 (Nat.lt_of_le_of_lt j4 r3) (Nat.lt_of_le_of_lt (Nat.mul_le_mul hB j4) r4)
    have l2 : 0 < st.2.r.vo.length := by have := i1.ok.len; have := i1.ok.pos; omega
    have l1 : 0 < (copen st.2 o[k]).r.vo.length := by have := j1.ok.len; have := j1.ok.pos; show 0 < (inflStep st o[k]).2.r.vo.length; omega
    have g1 : atI ((copen st.2 o[k]).r.vo.map qd) 0 = some (qd ((copen st.2 o[k]).r.vo.getD 0 0)) := atI_map (atI_n (j := 0) (getD_some l1))
    have g2 : atI (st.2.r.vo.map qd) 0 = some (qd (st.2.r.vo.getD 0 0)) := atI_map (atI_n (j := 0) (getD_some l2))
    refine ⟨_, _, (gd_name 3 sc.nd), ?_⟩
    refine sds_cons (sd_asg (d := coastD K (copen st.2 o[k])) 4 (pd_meth Mop (hr.mono (by decide)) dfl_nil (pd_var 0 rfl) (pad_cons (pd_var 3 rfl) pad_nil) rfl ⟨_, o[k], D', M', rfl, h1, h2, h3, h4, h5, rfl⟩) ?_ sc.nd)
    by_cases z : o[k] = 0
    · have es : inflStep st o[k] = (st.1 + ((copen st.2 o[k]).r.vo.getD 0 0 - st.2.r.vo.getD 0 0), copen st.2 o[k]) := by unfold inflStep; rw [if_pos z]
      have sfound : Sm st.1 := sm1 i6 (by omega)
      have sl : Sm ((copen st.2 o[k]).r.vo.getD 0 0) := sm2 (j5 _ (getD_mem (xs := copenV st.2 o[k]) (i := 0) (d := 0) l1)) (by omega)
      have sc0 : Sm (st.2.r.vo.getD 0 0) := sm1 (i5 _ (getD_mem (xs := st.2.r.vo) (i := 0) (d := 0) l2)) (by omega)
      have sdiff : Sm ((copen st.2 o[k]).r.vo.getD 0 0 - st.2.r.vo.getD 0 0) := by
        obtain ⟨x, x0, x8, hx⟩ := copen_bd i1 h2 i2 i3 (Nat.le_trans m32 (Nat.le_mul_of_pos_right _ (Nat.pow_pos (by decide)))) i5
        have q1 := hx _ (getD_mem (xs := copenV st.2 o[k]) (i := 0) (d := 0) l1)
        have q2 := (i5 _ (getD_mem (xs := st.2.r.vo) (i := 0) (d := 0) l2)).wide (E := x)
        have q3 := q1.sub q2
        have pk : M * 6 ^ (k + 1) = M * 6 ^ k * 6 := by rw [Nat.pow_succ, Nat.mul_assoc]
        have dk : Dn * 8 ^ (k + 1) = Dn * 8 ^ k * 8 := by rw [Nat.pow_succ, Nat.mul_assoc]
        have le : E1 * x ≤ Dn * 8 ^ (k + 1) := by rw [dk]; exact Nat.mul_le_mul i4 x8
        exact q3.sm (Nat.mul_pos i2 x0) (Nat.lt_of_le_of_lt le r3) (Nat.lt_of_le_of_lt (Nat.mul_le_mul (by omega) le) r4)
      refine sds_cons (sd_ifT (pt_eq (pd_var 3 rfl) pd_int) (decide_eq_true (by omega)) ?_)
      refine sds_one (sd_asg (d := qd (st.1 + ((copen st.2 o[k]).r.vo.getD 0 0 - st.2.r.vo.getD 0 0))) 2 (pd_call Fplus (hr.mono (by decide)) dfl_nil (pad_cons (pd_var 2 rfl) (pad_cons (pd_call (r := qd ((copen st.2 o[k]).r.vo.getD 0 0 - st.2.r.vo.getD 0 0)) Fminus (hr.mono (by decide)) dfl_nil (pad_cons (pd_at (d := qd ((copen st.2 o[k]).r.vo.getD 0 0)) (pd_fld (d := .tup ((copen st.2 o[k]).r.vo.map qd)) (pd_fld (d := rowD K (copen st.2 o[k]).r) (pd_var 4 rfl) T.clCoast T.noCoast_row rfl) T.clRow T.noRow_volumes rfl) pd_int (atD_tup g1)) (pad_cons (pd_at (d := qd (st.2.r.vo.getD 0 0)) (pd_fld (d := .tup (st.2.r.vo.map qd)) (pd_fld (d := rowD K st.2.r) (pd_var 0 rfl) T.clCoast T.noCoast_row rfl) T.clRow T.noRow_volumes rfl) pd_int (atD_tup g2)) pad_nil)) ⟨_, _, rfl, sl, sc0, rfl⟩) pad_nil)) ⟨_, _, rfl, sfound, sdiff, rfl⟩) ?_ sc.nd)
      refine sds_one (sd_asg 0 (pd_var 4 rfl) ⟨E.d (nD o[k]), E.d (coastD K (copen st.2 o[k])), ?_⟩ sc.nd)
      rw [es]; rfl
    · have es : inflStep st o[k] = (st.1, copen st.2 o[k]) := by unfold inflStep; rw [if_neg z]
      refine sds_cons (sd_ifF (pt_eq (pd_var 3 rfl) pd_int) (decide_eq_false (by omega)) (sds_nil ?_))
      refine sds_one (sd_asg 0 (pd_var 4 rfl) ⟨E.d (nD o[k]), E.d (coastD K (copen st.2 o[k])), ?_⟩ sc.nd)
      rw [es]; rfl
  · obtain ⟨e3, e4, rfl⟩ := hI
    refine sds_one (sd_ret (pd_var 2 rfl) ?_)
    rw [List.length_map, List.take_length]; rfl
end
end WL
set_option Elab.async false
set_option linter.all false
set_option maxRecDepth 100000
set_option maxHeartbeats 800000
namespace WL
open PySem PySem.Spec PyProof.Rows L2
/-! openings of coasts, place by place -/
abbrev gt (v : List Rat) (i : Nat) : Rat := v.getD i 0
theorem gt_set {v : List Rat} {j : Nat} {x : Rat} (hj : j < v.length) (i : Nat) : gt (v.set j x) i = if i = j then x else gt v i := by
  unfold gt
  rw [List.getD_eq_getElem?_getD, List.getD_eq_getElem?_getD, List.getElem?_set]
  by_cases h : j = i
  · subst h; simp [hj]
  · rw [if_neg h, if_neg (fun z => h z.symm)]
theorem gt_open {ar : List Nat} {v : List Rat} {k : Nat} (h1 : 1 ≤ k) (h2 : k < v.length) (i : Nat) :
    gt (openV ar v k 1) i = if i = k - 1 then (gt v (k - 1) + gt v k) * frA ar k else if i = k then (gt v (k - 1) + gt v k) * (1 - frA ar k) else gt v i := by
  have lt : (List.take (k - 1) v).length = k - 1 := by rw [List.length_take]; omega
  unfold openV gt
  simp only
  show (List.take (k - 1) v ++ [_, _] ++ List.drop (k + 1) v).getD i 0 = _
  rw [List.getD_eq_getElem?_getD]
  by_cases c1 : i < k - 1
  · rw [List.append_assoc, List.getElem?_append_left (by rw [lt]; exact c1), List.getElem?_take, if_pos c1, if_neg (by omega), if_neg (by omega), List.getD_eq_getElem?_getD]
  · rw [List.append_assoc, List.getElem?_append_right (by rw [lt]; omega), lt]
    by_cases c2 : i = k - 1
    · have : i - (k - 1) = 0 := by omega
      rw [this, if_pos c2]
      show v.getD (k - 1) 0 + _ = _
      unfold frA
      grind
    · by_cases c3 : i = k
      · have : i - (k - 1) = 1 := by omega
        rw [this, if_neg c2, if_pos c3]
        show v.getD (k - 1) 0 + v.getD k 0 - _ = _
        unfold frA
        grind
      · rw [if_neg c2, if_neg c3, List.getElem?_append_right (by show 2 ≤ _; omega), List.getElem?_drop, List.getD_eq_getElem?_getD]
        congr 2
        simp only [List.length_cons, List.length_nil]
        omega
/-- what one opening does, place by place -/
theorem gt_copen {c : Cst} {k : Nat} (hl : c.r.vo.length = c.r.ar.length) (hp : 1 ≤ c.r.ar.length) (hk : k ≤ c.r.ar.length) (i : Nat) :
    gt (copenV c k) i = if k = 0 then (if i = 0 then c.lf.getD 0 * ((c.r.ar.getD 0 0 : Nat) : Rat) else gt c.r.vo i)
      else if k = c.r.ar.length then (if i = c.r.ar.length - 1 then c.rt.getD 0 * ((c.r.ar.getD (c.r.ar.length - 1) 0 : Nat) : Rat) else gt c.r.vo i)
      else if i = k - 1 then (gt c.r.vo (k - 1) + gt c.r.vo k) * frA c.r.ar k else if i = k then (gt c.r.vo (k - 1) + gt c.r.vo k) * (1 - frA c.r.ar k) else gt c.r.vo i := by
  unfold copenV
  by_cases k0 : k = 0
  · rw [if_pos k0, if_pos k0, gt_set (by omega)]
  · rw [if_neg k0, if_neg k0]
    by_cases kn : k = c.r.ar.length
    · rw [if_pos kn, if_pos kn, gt_set (by omega)]
    · rw [if_neg kn, if_neg kn, gt_open (by omega) (by omega)]
theorem copenV_len {c : Cst} {k : Nat} (hl : c.r.vo.length = c.r.ar.length) (hp : 1 ≤ c.r.ar.length) (hk : k ≤ c.r.ar.length) : (copenV c k).length = c.r.ar.length := by
  unfold copenV
  by_cases k0 : k = 0
  · rw [if_pos k0, List.length_set, hl]
  · rw [if_neg k0]
    by_cases kn : k = c.r.ar.length
    · rw [if_pos kn, List.length_set, hl]
    · rw [if_neg kn, openV_len (by omega) (by omega), hl]
/-- coasts of the same shape -/
structure Like (n : Nat) (ar : List Nat) (c : Cst) : Prop where
  ea : c.r.ar = ar
  en : ar.length = n
  n0 : 1 ≤ n
  len : c.r.vo.length = n
  pos : ∀ a ∈ ar, 1 ≤ a
theorem Like.open {n : Nat} {ar : List Nat} {c : Cst} {k : Nat} (h : Like n ar c) (hk : k ≤ n) : Like n ar (copen c k) := by
  obtain ⟨h1, h2, h3, h4, h5⟩ := h
  refine ⟨h1, h2, h3, ?_, h5⟩
  show (copenV c k).length = n
  rw [copenV_len (by rw [h1, h2, h4]) (by rw [h1, h2]; exact h3) (by rw [h1, h2]; exact hk), h1, h2]
theorem Like.gt {n : Nat} {ar : List Nat} {c : Cst} {k : Nat} (h : Like n ar c) (hk : k ≤ n) (i : Nat) : gt (copen c k).r.vo i = if k = 0 then (if i = 0 then c.lf.getD 0 * ((ar.getD 0 0 : Nat) : Rat) else gt c.r.vo i)
      else if k = n then (if i = n - 1 then c.rt.getD 0 * ((ar.getD (n - 1) 0 : Nat) : Rat) else gt c.r.vo i)
      else if i = k - 1 then (gt c.r.vo (k - 1) + gt c.r.vo k) * frA ar k else if i = k then (gt c.r.vo (k - 1) + gt c.r.vo k) * (1 - frA ar k) else gt c.r.vo i := by
  obtain ⟨h1, h2, h3, h4, h5⟩ := h
  have := gt_copen (c := c) (k := k) (by rw [h1, h2, h4]) (by rw [h1, h2]; exact h3) (by rw [h1, h2]; exact hk) i
  rw [h1, h2] at this
  exact this
theorem Like.fr {n : Nat} {ar : List Nat} {c : Cst} {k : Nat} (h : Like n ar c) (hk : k < n) : 0 ≤ frA ar k ∧ frA ar k ≤ 1 := frA_le (pos_pair h.pos (by rw [h.en]; exact hk))
theorem Like.after {n : Nat} {ar : List Nat} : ∀ (o : List Nat) {c : Cst}, Like n ar c → (∀ k ∈ o, k ≤ n) → Like n ar (afterC c o)
  | [], c, h, _ => h
  | k :: o, c, h, ho => Like.after o (h.open (ho k (by simp))) fun j hj => ho j (List.mem_cons_of_mem _ hj)
/-! ### more water stays more -/
structure Below (n : Nat) (ar : List Nat) (c d : Cst) : Prop where
  lc : Like n ar c
  ld : Like n ar d
  le : ∀ i, gt c.r.vo i ≤ gt d.r.vo i
  lf : c.lf.getD 0 ≤ d.lf.getD 0
  rt : c.rt.getD 0 ≤ d.rt.getD 0
theorem Below.open {n : Nat} {ar : List Nat} {c d : Cst} {k : Nat} (h : Below n ar c d) (hk : k ≤ n) : Below n ar (copen c k) (copen d k) := by
  refine ⟨h.lc.open hk, h.ld.open hk, fun i => ?_, h.lf, h.rt⟩
  rw [h.lc.gt hk, h.ld.gt hk]
  have na : ∀ a : Nat, (0 : Rat) ≤ (a : Rat) := fun a => Rat.natCast_nonneg
  by_cases k0 : k = 0
  · rw [if_pos k0, if_pos k0]
    split
    · have := Rat.mul_nonneg (show 0 ≤ d.lf.getD 0 - c.lf.getD 0 by have := h.lf; grind) (na (ar.getD 0 0))
      grind
    · exact h.le i
  · rw [if_neg k0, if_neg k0]
    by_cases kn : k = n
    · rw [if_pos kn, if_pos kn]
      split
      · have := Rat.mul_nonneg (show 0 ≤ d.rt.getD 0 - c.rt.getD 0 by have := h.rt; grind) (na (ar.getD (n - 1) 0))
        grind
      · exact h.le i
    · rw [if_neg kn, if_neg kn]
      obtain ⟨p0, p1⟩ := h.lc.fr (k := k) (by omega)
      have s := show 0 ≤ (gt d.r.vo (k - 1) + gt d.r.vo k) - (gt c.r.vo (k - 1) + gt c.r.vo k) by have := h.le (k - 1); have := h.le k; grind
      have m1 := Rat.mul_nonneg s p0
      have m2 := Rat.mul_nonneg s (show 0 ≤ 1 - frA ar k by grind)
      split
      · grind
      · split
        · grind
        · exact h.le i
theorem Below.after {n : Nat} {ar : List Nat} : ∀ (o : List Nat) {c d : Cst}, Below n ar c d → (∀ k ∈ o, k ≤ n) → Below n ar (afterC c o) (afterC d o)
  | [], c, d, h, _ => h
  | k :: o, c, d, h, ho => Below.after o (h.open (ho k (by simp))) fun j hj => ho j (List.mem_cons_of_mem _ hj)
/-! ### the linear part: seas of no height -/
def dry (c : Cst) : Cst := { c with lf := none, rt := none }
/-- d is dry, and c is d and e together -/
structure Sum3 (n : Nat) (ar : List Nat) (s : Rat) (c d e : Cst) : Prop where
  lc : Like n ar c
  ld : Like n ar d
  le : Like n ar e
  eq : ∀ i, gt c.r.vo i = s * gt d.r.vo i + gt e.r.vo i
  dl : d.lf = none
  dr : d.rt = none
  lf : c.lf = e.lf
  rt : c.rt = e.rt
theorem Sum3.open {n : Nat} {ar : List Nat} {s : Rat} {c d e : Cst} {k : Nat} (h : Sum3 n ar s c d e) (hk : k ≤ n) : Sum3 n ar s (copen c k) (copen d k) (copen e k) := by
  refine ⟨h.lc.open hk, h.ld.open hk, h.le.open hk, fun i => ?_, h.dl, h.dr, h.lf, h.rt⟩
  rw [h.lc.gt hk, h.ld.gt hk, h.le.gt hk, h.dl, h.dr, h.lf, h.rt]
  have z : (none : Option Rat).getD 0 = 0 := rfl
  have ei := h.eq i
  have e1 := h.eq (k - 1)
  have e2 := h.eq k
  rw [z]
  by_cases k0 : k = 0
  · simp only [k0, if_true]
    split
    · grind
    · exact ei
  · rw [if_neg k0, if_neg k0, if_neg k0]
    by_cases kn : k = n
    · rw [if_pos kn, if_pos kn, if_pos kn]
      split
      · grind
      · exact ei
    · rw [if_neg kn, if_neg kn, if_neg kn]
      split
      · rw [e1, e2]; grind
      · split
        · rw [e1, e2]; grind
        · exact ei
theorem Sum3.after {n : Nat} {ar : List Nat} {s : Rat} : ∀ (o : List Nat) {c d e : Cst}, Sum3 n ar s c d e → (∀ k ∈ o, k ≤ n) → Sum3 n ar s (afterC c o) (afterC d o) (afterC e o)
  | [], c, d, e, h, _ => h
  | k :: o, c, d, e, h, ho => Sum3.after o (h.open (ho k (by simp))) fun j hj => ho j (List.mem_cons_of_mem _ hj)
/-! ### with dry seas all sinks -/
/-- no basin above the height 1, the first m below it -/
structure Low1 (n m : Nat) (ar : List Nat) (c : Cst) : Prop where
  lc : Like n ar c
  dl : c.lf = none
  dr : c.rt = none
  nn : ∀ i, 0 ≤ gt c.r.vo i
  le : ∀ i, i < n → gt c.r.vo i ≤ ((ar.getD i 0 : Nat) : Rat)
  lt : ∀ i, i < m → gt c.r.vo i < ((ar.getD i 0 : Nat) : Rat)
theorem ar_pos {ar : List Nat} (h : ∀ a ∈ ar, 1 ≤ a) {i : Nat} (hi : i < ar.length) : (0 : Rat) < ((ar.getD i 0 : Nat) : Rat) := by
  have := h _ (getD_mem (d := 0) hi)
  exact_mod_cast (show 0 < ar.getD i 0 by omega)
theorem fr_eq {ar : List Nat} {k : Nat} (h : 0 < ar.getD (k - 1) 0 + ar.getD k 0) : frA ar k * (((ar.getD (k - 1) 0 : Nat) : Rat) + ((ar.getD k 0 : Nat) : Rat)) = ((ar.getD (k - 1) 0 : Nat) : Rat) := by
  have h0 : (0 : Rat) < ((ar.getD (k - 1) 0 + ar.getD k 0 : Nat) : Rat) := by exact_mod_cast h
  have e : frA ar k * ((ar.getD (k - 1) 0 + ar.getD k 0 : Nat) : Rat) = ((ar.getD (k - 1) 0 : Nat) : Rat) := Rat.div_mul_cancel (by grind)
  push_cast at e
  exact e
theorem Low1.open {n m : Nat} {ar : List Nat} {c : Cst} {k : Nat} (h : Low1 n m ar c) (hk : k ≤ n) (hm : k ≤ m) (hmn : m ≤ n) (m' : Nat) (hm' : m' = m ∨ (m' = m + 1 ∧ k = m ∧ m < n)) : Low1 n m' ar (copen c k) := by
  have z : (none : Option Rat).getD 0 = 0 := rfl
  have key : ∀ i, gt (copen c k).r.vo i = if k = 0 then (if i = 0 then 0 else gt c.r.vo i)
      else if k = n then (if i = n - 1 then 0 else gt c.r.vo i)
      else if i = k - 1 then (gt c.r.vo (k - 1) + gt c.r.vo k) * frA ar k else if i = k then (gt c.r.vo (k - 1) + gt c.r.vo k) * (1 - frA ar k) else gt c.r.vo i := fun i => by
    rw [h.lc.gt hk, h.dl, h.dr, z, Rat.zero_mul, Rat.zero_mul]
  have apos : ∀ i, i < n → (0 : Rat) < ((ar.getD i 0 : Nat) : Rat) := fun i hi => ar_pos h.lc.pos (by rw [h.lc.en]; exact hi)
  have mid : 0 < k → k < n → ∃ a b p : Rat, ((ar.getD (k - 1) 0 : Nat) : Rat) = a ∧ ((ar.getD k 0 : Nat) : Rat) = b ∧ frA ar k = p ∧ p * (a + b) = a ∧ 0 < a ∧ 0 < b ∧ 0 < p ∧ p < 1 := fun h0 hn => by
    have e := fr_eq (ar := ar) (k := k) (pos_pair h.lc.pos (by rw [h.lc.en]; exact hn))
    have a0 := apos (k - 1) (by omega)
    have b0 := apos k hn
    refine ⟨_, _, _, rfl, rfl, rfl, e, a0, b0, ?_, ?_⟩
    · apply Rat.not_le.mp
      intro w
      have := Rat.mul_nonneg (show 0 ≤ - frA ar k by grind) (show 0 ≤ ((ar.getD (k - 1) 0 : Nat) : Rat) + ((ar.getD k 0 : Nat) : Rat) by grind)
      grind
    · apply Rat.not_le.mp
      intro w
      have := Rat.mul_nonneg (show 0 ≤ frA ar k - 1 by grind) (show 0 ≤ ((ar.getD (k - 1) 0 : Nat) : Rat) + ((ar.getD k 0 : Nat) : Rat) by grind)
      grind
  refine ⟨h.lc.open hk, h.dl, h.dr, fun i => ?_, fun i hi => ?_, fun i hi => ?_⟩
  · rw [key]
    have := h.nn i
    by_cases k0 : k = 0
    · rw [if_pos k0]; split <;> grind
    · rw [if_neg k0]
      by_cases kn : k = n
      · rw [if_pos kn]; split <;> grind
      · rw [if_neg kn]
        obtain ⟨a, b, p, _, _, ep, _, _, _, p0, p1⟩ := mid (by omega) (by omega)
        rw [ep]
        have s : 0 ≤ gt c.r.vo (k - 1) + gt c.r.vo k := by have := h.nn (k - 1); have := h.nn k; grind
        have m1 := Rat.mul_nonneg s (Rat.le_of_lt p0)
        have m2 := Rat.mul_nonneg s (show 0 ≤ 1 - p by grind)
        split
        · exact m1
        · split
          · exact m2
          · exact this
  · rw [key]
    have hle := h.le i hi
    have ha := apos i hi
    by_cases k0 : k = 0
    · rw [if_pos k0]; split <;> grind
    · rw [if_neg k0]
      by_cases kn : k = n
      · rw [if_pos kn]; split <;> grind
      · rw [if_neg kn]
        obtain ⟨a, b, p, ea, eb, ep, e, a0, b0, p0, p1⟩ := mid (by omega) (by omega)
        rw [ep]
        have l1 := h.le (k - 1) (by omega)
        have l2 := h.le k (by omega)
        rw [ea] at l1; rw [eb] at l2
        have m1 := Rat.mul_nonneg (show 0 ≤ a + b - (gt c.r.vo (k - 1) + gt c.r.vo k) by grind) (Rat.le_of_lt p0)
        have m2 := Rat.mul_nonneg (show 0 ≤ a + b - (gt c.r.vo (k - 1) + gt c.r.vo k) by grind) (show 0 ≤ 1 - p by grind)
        split
        · next q => rw [q, ea]; grind
        · split
          · next q => rw [q, eb]; grind
          · exact hle
  · rw [key]
    have hin : i < n := by omega
    have ha := apos i hin
    by_cases k0 : k = 0
    · rw [if_pos k0]
      split
      · exact ha
      · exact h.lt i (by omega)
    · rw [if_neg k0]
      by_cases kn : k = n
      · rw [if_pos kn]
        split
        · exact ha
        · exact h.lt i (by omega)
      · rw [if_neg kn]
        obtain ⟨a, b, p, ea, eb, ep, e, a0, b0, p0, p1⟩ := mid (by omega) (by omega)
        rw [ep]
        have l1 := h.lt (k - 1) (by omega)
        have l2 := h.le k (by omega)
        rw [ea] at l1; rw [eb] at l2
        have m1 := Rat.mul_pos (show 0 < a + b - (gt c.r.vo (k - 1) + gt c.r.vo k) by grind) p0
        have m2 := Rat.mul_pos (show 0 < a + b - (gt c.r.vo (k - 1) + gt c.r.vo k) by grind) (show 0 < 1 - p by grind)
        split
        · next q => rw [q, ea]; grind
        · split
          · next q => rw [q, eb]; grind
          · exact h.lt i (by omega)
theorem Low1.extras {n : Nat} {ar : List Nat} : ∀ (o : List Nat) {c : Cst}, Low1 n n ar c → (∀ k ∈ o, k ≤ n) → Low1 n n ar (afterC c o)
  | [], c, h, _ => h
  | k :: o, c, h, ho => Low1.extras o (h.open (ho k (by simp)) (ho k (by simp)) (Nat.le_refl _) n (.inl rfl)) fun j hj => ho j (List.mem_cons_of_mem _ hj)
theorem after_append (c : Cst) (o o' : List Nat) : afterC c (o ++ o') = afterC (afterC c o) o' := List.foldl_append
theorem Low1.range {n : Nat} {ar : List Nat} {c : Cst} (h : Low1 n 0 ar c) : ∀ k, k ≤ n → Low1 n k ar (afterC c (List.range k))
  | 0, _ => h
  | k + 1, hk => by
    have ih := Low1.range h k (by omega)
    rw [List.range_succ, after_append]
    exact ih.open (by omega) (Nat.le_refl _) (by omega) (k + 1) (.inr ⟨rfl, rfl, by omega⟩)
/-- an order that washes -/
def washO (n : Nat) (ex : List Nat) : List Nat := List.range (n + 1) ++ ex
theorem Low1.wash {n : Nat} {ar : List Nat} {c : Cst} {ex : List Nat} (h : Low1 n 0 ar c) (he : ∀ k ∈ ex, k ≤ n) : Low1 n n ar (afterC c (washO n ex)) := by
  unfold washO
  rw [after_append, List.range_succ, after_append]
  refine Low1.extras ex ?_ he
  have := Low1.range h n (Nat.le_refl _)
  exact this.open (Nat.le_refl _) (Nat.le_refl _) (Nat.le_refl _) n (.inl rfl)
end WL
set_option Elab.async false
set_option linter.all false
set_option maxRecDepth 100000
set_option maxHeartbeats 4000000
namespace WL
open PySem PySem.Spec PyProof.Rows L2
/-- one row of the system: the unit less the columns, and the right-hand side -/
def cycRow (c : Cst) (o : List Nat) (b : Nat) : List Rat := ((List.range c.r.ar.length).map fun one => (if b = one then 1 else 0) - (colV c o one).getD b 0) ++ [(noneV c o).getD b 0]
def cycM (c : Cst) (o : List Nat) : Mx := (List.range c.r.ar.length).map (cycRow c o)
def cycX (c : Cst) (o : List Nat) : List Rat := lastCol (elimN (cycM c o) c.r.ar.length)
structure CycOk (c : Cst) (o : List Nat) : Prop where
  ord : OrdC c o
  all : ∀ k, k < c.r.ar.length → k ∈ o
  turn : ∀ k, k < c.r.ar.length → TurnOk (elimN (cycM c o) k) k
  smc : ∀ k, k < c.r.ar.length → ∀ q ∈ colV c o k, Sm q
  inf : ∃ Dn M, AftOk (withV c (cycX c o)) o Dn M ∧ 32 ≤ M ∧ ∃ D', 0 < D' ∧ 2 ∣ D' ∧ D' ≤ Dn ∧ ∀ q ∈ cycX c o, Bd D' M q
theorem cycM_wide (c : Cst) (o : List Nat) : Wide c.r.ar.length (cycM c o) := ⟨by unfold cycM; simp, fun r hr => by
  unfold cycM at hr
  obtain ⟨i, _, rfl⟩ := List.mem_map.mp hr
  unfold cycRow; simp⟩
theorem noneV_len {c : Cst} {o : List Nat} (ho : OrdC c o) : (noneV c o).length = c.r.ar.length := by
  obtain ⟨f1, f2, f3⟩ := ho.none.fin
  have := f1.ok.len
  rw [(after_same o _).1] at this
  exact this
theorem lateV_len {c : Cst} {o : List Nat} (ho : OrdC c o) (k : Nat) : (lateV c o k).length = c.r.ar.length := by
  obtain ⟨g1, g2, g3⟩ := (ho.unit k).fin
  have := g1.ok.len
  rw [(after_same o _).1] at this
  exact this
theorem colV_len {c : Cst} {o : List Nat} (ho : OrdC c o) (k : Nat) : (colV c o k).length = c.r.ar.length := by
  unfold colV
  rw [List.length_zipWith, noneV_len ho, lateV_len ho]
  exact Nat.min_self _
theorem sm_int {i : Int} (h : i.natAbs ≤ 1) : Sm (i : Rat) := (bd_int (i := i) (M := 1) h).sm (by decide) (Nat.one_lt_two_pow (by decide)) (Nat.one_lt_two_pow (by decide))
theorem inC_lt {c : Cst} {k : Nat} (hp : 1 ≤ c.r.ar.length) (h : InC c k) : k ≤ c.r.ar.length := by
  rcases h with z | z | z
  · omega
  · omega
  · omega
section
variable {P : Program} {w : World} {K : PySem.W.Frag} {mg : Str → Option Value} {base : Heap}
def RWashed (K : PySem.W.Frag) (ds : List D) (r : D) : Prop := ∃ (c : Cst) (o : List Nat), ds = [coastD K c, .lst (o.map nD)] ∧ c.r.ar.length ≤ 7 ∧ (∀ k, k < c.r.ar.length → k ∈ o) ∧ r = .bl true
abbrev C_is_washed (P : Program) (w : World) (K : PySem.W.Frag) (mg : Str → Option Value) (base : Heap) : Prop := Fn P w K mg base "is_washed" ["coast", "order"] 3 (SpP ⟨P, w, K⟩ (RWashed K)) []
theorem sc_is_washed : FnScope ["coast", "order", "many", "left", "right"] ["coast", "order"] (defScope s_is_washed) := ⟨rfl, rfl, rfl, by decide +kernel, rfl, by decide +kernel, by decide +kernel⟩
theorem fn_is_washed (T : Tx K mg) (F : Dfn K mg "is_washed" s_is_washed []) (Mlen : M_len P w K mg base) : C_is_washed P w K mg base := by
  have sc := sc_is_washed
  refine F.fn (fun _ _ _ _ _ _ us hl => match us, hl with | [_, _], _ => rfl) fun f fd F => ?_
  refine fn_pure F sc (by rintro ds r ⟨_, _, rfl, _⟩; rfl) (by decide) fun cdv A outer s H ds r hr hR => ?_
  obtain ⟨c, o, rfl, h7, hall, rfl⟩ := hR
  have hseq : seqD (D.lst (o.map nD)) = some ((o.map Int.ofNat).map D.int) := by
    show some (o.map nD) = _
    rw [List.map_map]; rfl
  refine sds_cons (sd_asg (d := nD c.r.ar.length) 2 (pd_lenC (i := (c.r.ar.length : Nat)) Mlen T.len (hr.mono (by decide)) (pd_fld (d := rowD K c.r) (pd_var 0 rfl) T.clCoast T.noCoast_row rfl) ⟨c.r, rfl, rfl⟩ (by omega)) ?_ sc.nd)
  refine sds_cons (sd_asg (d := nD 0) 3 pd_int ?_ sc.nd)
  refine sds_cons (sd_while (fun ρ => ∃ x : Nat, ρ = [.d (coastD K c), .d (.lst (o.map nD)), .d (nD c.r.ar.length), .d (nD x), .no] ∧ x ≤ c.r.ar.length) (fun ρ => match ρ with | [_, _, _, .d (.int y), _] => c.r.ar.length - y.toNat | _ => 0) ⟨0, rfl, by omega⟩ fun ρ hI => ?_)
  · obtain ⟨x, rfl, hx⟩ := hI
    refine ⟨_, _, (pt_and2 (pt_lt (pd_var 3 rfl) (pd_var 2 rfl)) (fun _ => (pt_inS (pd_var 3 rfl) (pd_var 1 rfl) hseq))), fun hc => ?_, fun hc => ?_⟩
    · have hlt : x < c.r.ar.length := by
        have h1 := (Bool.and_eq_true_iff.mp hc).1
        have := of_decide_eq_true h1
        omega
      refine sds_one (sd_augI 3 rfl pd_int ⟨⟨x + 1, rfl, by omega⟩, ?_⟩ sc.nd)
      show c.r.ar.length - (((x : Nat) : Int) + 1).toNat < c.r.ar.length - (((x : Nat) : Int)).toNat
      omega
    · have hge : x = c.r.ar.length := by
        apply Nat.le_antisymm hx
        apply Nat.not_lt.mp
        intro hlt
        have h1 : decide (((x : Nat) : Int) < ((c.r.ar.length : Nat) : Int)) = true := decide_eq_true (by omega)
        have h2 : decide (((x : Nat) : Int) ∈ o.map Int.ofNat) = true := decide_eq_true (List.mem_map.mpr ⟨x, hall x hlt, rfl⟩)
        have h3 := hc
        rw [h1, h2] at h3
        cases h3
      subst hge
      refine sds_cons (sd_asg 4 (pd_var 2 rfl) ?_ sc.nd)
      refine sds_cons (sd_while (fun ρ => ∃ y : Nat, ρ = [.d (coastD K c), .d (.lst (o.map nD)), .d (nD c.r.ar.length), .d (nD c.r.ar.length), .d (nD y)] ∧ y ≤ c.r.ar.length) (fun ρ => match ρ with | [_, _, _, _, .d (.int y)] => y.toNat | _ => 0) ⟨c.r.ar.length, rfl, Nat.le_refl _⟩ fun ρ hI => ?_)
      obtain ⟨y, rfl, hy⟩ := hI
      refine ⟨_, _, (pt_and2 (pt_gt (pd_var 4 rfl) pd_int) (fun _ => (pt_inS (pd_var 4 rfl) (pd_var 1 rfl) hseq))), fun hc => ?_, fun hc => ?_⟩
      · have hlt : 0 < y := by
          have h1 := (Bool.and_eq_true_iff.mp hc).1
          have := of_decide_eq_true h1
          omega
        have ey : ((y : Nat) : Int) - 1 = ((y - 1 : Nat) : Int) := by omega
        refine sds_one (sd_augS 4 rfl pd_int ⟨⟨y - 1, by rw [ey]; rfl, by omega⟩, ?_⟩ sc.nd)
        show (((y : Nat) : Int) - 1).toNat < (((y : Nat) : Int)).toNat
        omega
      · refine sds_one (sd_ret (pd_ge (pd_var 3 rfl) (pd_var 4 rfl)) ?_)
        show D.bl (decide _) = D.bl true
        congr 1
        exact decide_eq_true (by omega)
/-! ### Cycle, check_washed, cycle -/
def RCycleI (C : Addr) (o : O) (ds : List D) (o' : O) (r : D) : Prop := ∃ dx ls f, o = .ins C dx [] [] ∧ ds = [.lst ls, f] ∧ o' = .ins C dx ["volumes", "flow"] [.tup ls, f] ∧ r = .non
abbrev C_Cycle (P : Program) (w : World) (K : PySem.W.Frag) (mg : Str → Option Value) (base : Heap) : Prop := Mc P w K mg base "Cycle" (cA K "Cycle") ["self", "volumes", "flow"] 1 (SpO ⟨P, w, K⟩ (RCycleI (cA K "Cycle"))) []
theorem sc_Cycle___init__ : FnScope ["self", "volumes", "flow"] ["self", "volumes", "flow"] (defScope s_Cycle___init__) := ⟨rfl, rfl, rfl, by decide +kernel, rfl, by decide +kernel, by decide +kernel⟩
theorem mc_Cycle (T : Tx K mg) (F : Cdf K mg "Cycle" "Cycle.__init__" s_Cycle___init__ []) : C_Cycle P w K mg base := by
  have sc := sc_Cycle___init__
  refine F.mc (fun _ _ _ _ _ _ us hl => match us, hl with | [_, _, _], _ => rfl) fun f fd F => ?_
  refine fn_own F sc (by rintro o ds o' r ⟨_, _, _, _, rfl, _⟩; rfl) (by decide) fun cdv A outer s H l o ds o' r hr hR => ?_
  obtain ⟨dx, ls, f', rfl, rfl, rfl, rfl⟩ := hR
  refine sds_cons (sd_fld 0 rfl (pd_tuple (x := .lst ls) T.tuple (pd_var 1 rfl) rfl) rfl (by decide) (by decide) T.clCycle T.noCycle_volumes ?_)
  exact sds_one (sd_fld 0 rfl (pd_var 2 rfl) rfl (by decide) (by decide) T.clCycle T.noCycle_flow ⟨rfl, rfl⟩)
def RCheckW (K : PySem.W.Frag) (ds : List D) (r : D) : Prop := ∃ (c : Cst) (o : List Nat), ds = [coastD K c, .lst (o.map nD)] ∧ OrdC c o ∧ (∀ k, k < c.r.ar.length → k ∈ o) ∧ r = .non
abbrev C_check_washed (P : Program) (w : World) (K : PySem.W.Frag) (mg : Str → Option Value) (base : Heap) : Prop := Fn P w K mg base "check_washed" ["coast", "order"] 5 (SpP ⟨P, w, K⟩ (RCheckW K)) []
theorem sc_check_washed : FnScope ["coast", "order"] ["coast", "order"] (defScope s_check_washed) := ⟨rfl, rfl, rfl, by decide +kernel, rfl, by decide +kernel, by decide +kernel⟩
theorem fn_check_washed (T : Tx K mg) (F : Dfn K mg "check_washed" s_check_washed []) (Fcheck_coast_order : C_check_coast_order P w K mg base) (Fis_washed : C_is_washed P w K mg base) : C_check_washed P w K mg base := by
  have sc := sc_check_washed
  refine F.fn (fun _ _ _ _ _ _ us hl => match us, hl with | [_, _], _ => rfl) fun f fd F => ?_
  refine fn_pure F sc (by rintro ds r ⟨_, _, rfl, _⟩; rfl) (by decide) fun cdv A outer s H ds r hr hR => ?_
  obtain ⟨c, o, rfl, ho, hall, rfl⟩ := hR
  refine sds_cons (sd_expr (pd_call (r := .non) Fcheck_coast_order (hr.mono (by decide)) dfl_nil (pad_cons (pd_var 0 rfl) (pad_cons (pd_var 1 rfl) pad_nil)) ⟨c, o, rfl, ho, rfl⟩) ?_)
  exact sds_one (sd_ifF (v := !true) (pt_not (PD.t (pd_call Fis_washed (hr.mono (by decide)) dfl_nil (pad_cons (pd_var 0 rfl) (pad_cons (pd_var 1 rfl) pad_nil)) ⟨c, o, rfl, ho.ok.n7, hall, rfl⟩))) rfl (sds_nil rfl))
def cycleD (K : PySem.W.Frag) (x : List Rat) (f : Rat) : D := .ins (cA K "Cycle") ["volumes", "flow"] [.tup (x.map qd), qd f]
def RCycle (K : PySem.W.Frag) (ds : List D) (r : D) : Prop := ∃ (c : Cst) (o : List Nat), ds = [coastD K c, .lst (o.map nD)] ∧ CycOk c o ∧ r = cycleD K (cycX c o) (inflowV (withV c (cycX c o)) o)
abbrev C_cycle (P : Program) (w : World) (K : PySem.W.Frag) (mg : Str → Option Value) (base : Heap) : Prop := Fn P w K mg base "cycle" ["coast", "order"] 11 (SpP ⟨P, w, K⟩ (RCycle K)) []
theorem sc_cycle : FnScope ["coast", "order", "none", "columns", "many", "rows", "basin", "row", "one", "volumes"] ["coast", "order"] (defScope s_cycle) := ⟨rfl, rfl, rfl, by decide +kernel, rfl, by decide +kernel, by decide +kernel⟩
theorem fn_cycle (T : Tx K mg) (F : Dfn K mg "cycle" s_cycle []) (Mlen : M_len P w K mg base) (Fcheck_washed : C_check_washed P w K mg base) (Frounds_map : C_rounds_map P w K mg base) (Fminus : C_minus P w K mg base) (Fsolved : C_solved P w K mg base) (FCycle : C_Cycle P w K mg base) (Finflow : C_inflow P w K mg base) (Fwith_volumes : C_with_volumes P w K mg base) : C_cycle P w K mg base := by
  have sc := sc_cycle
  refine F.fn (fun _ _ _ _ _ _ us hl => match us, hl with | [_, _], _ => rfl) fun f fd F => ?_
  refine fn_pure F sc (by rintro ds r ⟨_, _, rfl, _⟩; rfl) (by decide) fun cdv A outer s H ds r hr hR => ?_
  obtain ⟨c, o, rfl, ho, rfl⟩ := hR
  have h7 := ho.ord.ok.n7
  have nlen := noneV_len ho.ord
  refine sds_cons (sd_expr (pd_call (r := .non) Fcheck_washed (hr.mono (by decide)) dfl_nil (pad_cons (pd_var 0 rfl) (pad_cons (pd_var 1 rfl) pad_nil)) ⟨c, o, rfl, ho.ord, ho.all, rfl⟩) ?_)
  refine sds_cons (sd_asgG (d := .tup [.tup ((noneV c o).map qd), .lst (((List.range c.r.ar.length).map (colV c o)).map lstQ)]) (pd_call Frounds_map (hr.mono (by decide)) dfl_nil (pad_cons (pd_var 0 rfl) (pad_cons (pd_var 1 rfl) pad_nil)) ⟨c, o, rfl, ho.ord, rfl⟩) (gd_tup2 (gd_name 2 sc.nd) (gd_name 3 sc.nd)) ?_)
  refine sds_cons (sd_parOL (d := nD c.r.ar.length) 4 5 (pd_lenC (i := (c.r.ar.length : Nat)) Mlen T.len (hr.mono (by decide)) (pd_fld (d := rowD K c.r) (pd_var 0 rfl) T.clCoast T.noCoast_row rfl) ⟨c.r, rfl, rfl⟩ (by omega)) (pl_lst pad_nil (lenOk rfl)) (fun l => ?_) sc.nd)
  refine sds_cons (sd_for (fun k ρ => ∃ e6 e7, ρ = [.d (coastD K c), .d (.lst (o.map nD)), .d (.tup ((noneV c o).map qd)), .d (.lst (((List.range c.r.ar.length).map (colV c o)).map lstQ)), .d (nD c.r.ar.length), .own l (.lst (((List.range k).map (cycRow c o)).map lstQ)), e6, e7, .no, .no]) (src_range1 T.range (pd_var 4 rfl) (by omega)) ⟨_, _, rfl⟩ (fun k d ρ hd hI => ?_) (fun ρ hI => ?_))
  · obtain ⟨e6, e7, rfl⟩ := hI
    have hk : k < c.r.ar.length := by have := (List.getElem?_eq_some_iff.mp hd).1; rw [rgFrom_len] at this; omega
    rw [rgFrom_get (by omega)] at hd
    cases hd
    rw [Int.zero_add]
    refine ⟨_, _, (gd_name 6 sc.nd), ?_⟩
    refine sds_cons (sd_asgLc (own := [("one", 8)]) 7 (lcr_to (((List.range c.r.ar.length).map fun one => (if k = one then 1 else 0) - (colV c o one).getD k 0).map qd) (src_range1 T.range (pd_var 4 rfl) (by omega)) [8] [8] (by decide) (no1 rfl) ?_ ?_ (fun i d y hd hy => ?_)) (fun l_row => ?_) sc.nd rfl (sw_true rfl rfl rfl (by decide +kernel)))
    · rw [rgFrom_len]; simp
    · rw [rgFrom_len]; omega
    · have hi : i < c.r.ar.length := by have := (List.getElem?_eq_some_iff.mp hd).1; rw [rgFrom_len] at this; omega
      rw [rgFrom_get (by omega)] at hd
      cases hd
      rw [List.getElem?_map, List.getElem?_map, List.getElem?_range hi] at hy
      cases hy
      rw [Int.zero_add]
      have l1 : k < (colV c o i).length := by rw [colV_len ho.ord]; exact hk
      have a1 : atD (.lst (((List.range c.r.ar.length).map (colV c o)).map lstQ)) ((i : Nat) : Int) = some (lstQ (colV c o i)) := atD_lst (atI_map (atI_n (by rw [List.getElem?_map, List.getElem?_range hi]; rfl)))
      refine ⟨_, fun _ _ _ _ _ => (gd_name 8 sc.nd), fun _ _ _ _ _ => (pd_call Fminus (hr.mono (by decide)) dfl_nil (pad_cons (pd_tup (pad_cons (pd_ifexp (d := .int (if k = i then 1 else 0)) (pt_eq (pd_var 6 rfl) (pd_var 8 rfl)) (fun hc => PD.is pd_int ?_) (fun hc => PD.is pd_int ?_)) (pad_cons pd_int pad_nil)) (lenOk rfl)) (pad_cons (pd_at (d := qd ((colV c o i).getD k 0)) (pd_at (d := lstQ (colV c o i)) (pd_var 3 rfl) (pd_var 8 rfl) a1) (pd_var 6 rfl) (row_at l1)) pad_nil)) ⟨if k = i then 1 else 0, (colV c o i).getD k 0, ?_, ?_, ho.smc i hi _ (getD_mem l1), rfl⟩), rfl⟩
      · have := of_decide_eq_true hc
        rw [if_pos (by omega)]
      · have := of_decide_eq_false hc
        rw [if_neg (by omega)]
      · by_cases z : k = i
        · simp only [z, if_true]; rfl
        · simp only [z, if_false]; rfl
      · by_cases z : k = i
        · simp only [z, if_true]; exact sm_int (i := 1) (by decide)
        · simp only [z, if_false]; exact sm_int (i := 0) (by decide)
    have g1 : atD (.tup ((noneV c o).map qd)) ((k : Nat) : Int) = some (qd ((noneV c o).getD k 0)) := atD_tup (atI_map (atI_n (getD_some (by rw [nlen]; exact hk))))
    refine sds_one (sd_append 5 rfl (PL.lst (pl_lst (pad_starL (PD.is (pd_frz (o := .lst (((List.range c.r.ar.length).map fun one => (if k = one then 1 else 0) - (colV c o one).getD k 0).map qd)) 7 rfl) rfl) (pad_cons (pd_at (d := qd ((noneV c o).getD k 0)) (pd_var 2 rfl) (pd_var 6 rfl) g1) pad_nil)) (lenOk ?_))) rfl ?_ ⟨E.d (nD k), E.d (.lst (((List.range c.r.ar.length).map fun one => (if k = one then 1 else 0) - (colV c o one).getD k 0).map qd)), ?_⟩)
    · rw [List.length_append, List.length_map, List.length_map, List.length_range]; exact Nat.ble_eq_true_of_le (show c.r.ar.length + 1 ≤ 100000 by omega)
    · rw [List.length_map, List.length_map, List.length_range]; omega
    · rw [List.range_succ, List.map_append, List.map_append]
      have e : lstQ (cycRow c o k) = .lst ((((List.range c.r.ar.length).map fun one => (if k = one then 1 else 0) - (colV c o one).getD k 0).map qd) ++ [qd ((noneV c o).getD k 0)]) := by unfold lstQ cycRow; rw [List.map_append]; rfl
      show _ = [_, _, _, _, _, E.own l (.lst (_ ++ [lstQ (cycRow c o k)])), _, _, _, _]
      rw [e]; rfl
  · obtain ⟨e6, e7, rfl⟩ := hI
    have hx : ∀ q ∈ cycX c o, Sm q := by
      obtain ⟨Dn, M, hA, m32, D', d0, _, dD, hb⟩ := ho.inf
      exact fun q hq => (hb q hq).sm d0 (Nat.lt_of_le_of_lt dD (Nat.lt_of_lt_of_le hA.hD (Nat.pow_le_pow_right (by decide) (by decide)))) (Nat.lt_of_le_of_lt (Nat.mul_le_mul_left _ dD) (Nat.lt_of_lt_of_le (mul_lt_pow hA.hM hA.hD) (Nat.pow_le_pow_right (by decide) (by decide))))
    obtain ⟨Dn, M, hA, m32, hD⟩ := ho.inf
    have xlen : (cycX c o).length = c.r.ar.length := by
      unfold cycX lastCol
      rw [List.length_map, elimN_len]
      exact (cycM_wide c o).1
    rw [rgFrom_len]
    refine sds_cons (sd_asg (d := lstQ (cycX c o)) 9 (pd_callC 5 Fsolved (hr.mono (by decide)) dfl_nil rfl pad_nil rfl ⟨cycM c o, c.r.ar.length, rfl, rfl, cycM_wide c o, h7, ho.turn, rfl⟩) ?_ sc.nd)
    refine sds_one (sd_ret (pd_make FCycle (hr.mono (by decide)) dfl_nil (pad_cons (pd_var 9 rfl) (pad_cons (pd_call (r := qd (inflowV (withV c (cycX c o)) o)) Finflow (hr.mono (by decide)) dfl_nil (pad_cons (pd_call (r := coastD K (withV c (cycX c o))) Fwith_volumes (hr.mono (by decide)) dfl_nil (pad_cons (pd_var 0 rfl) (pad_cons (pd_var 9 rfl) pad_nil)) ⟨c, _, _, cycX c o, rfl, ho.ord.ok, rfl, partDs_qd hx, xlen, hA.ok.ok.nn, rfl⟩) (pad_cons (pd_var 1 rfl) pad_nil)) ⟨_, o, Dn, M, rfl, hA, m32, hD, rfl⟩) pad_nil)) (fun dx => ⟨dx, _, _, rfl, rfl, rfl, rfl⟩)) rfl)
end
end WL
set_option Elab.async false
set_option linter.all false
set_option maxRecDepth 100000
set_option maxHeartbeats 800000
namespace WL
open PySem PySem.Spec PyProof.Rows L2
/-! the elimination, plainly -/
def sumF (f : Nat → Rat) : Nat → Rat
  | 0 => 0
  | n + 1 => sumF f n + f n
theorem sumF_congr {f g : Nat → Rat} : ∀ n, (∀ i, i < n → f i = g i) → sumF f n = sumF g n
  | 0, _ => rfl
  | n + 1, h => by rw [sumF, sumF, sumF_congr n fun i hi => h i (by omega), h n (by omega)]
theorem sumF_lin (f g : Nat → Rat) (c : Rat) : ∀ n, sumF (fun j => f j - c * g j) n = sumF f n - c * sumF g n
  | 0 => by simp only [sumF]; grind
  | n + 1 => by simp only [sumF]; rw [sumF_lin f g c n]; grind
theorem sumF_scale (f : Nat → Rat) (c : Rat) : ∀ n, sumF (fun j => f j * c) n = sumF f n * c
  | 0 => by simp only [sumF]; grind
  | n + 1 => by simp only [sumF]; rw [sumF_scale f c n]; grind
theorem sumF_le {f : Nat → Rat} {k : Nat} : ∀ n, (∀ j, j < n → j ≠ k → f j ≤ 0) → sumF f n ≤ if k < n then f k else 0
  | 0, _ => by simp [sumF]
  | n + 1, h => by
    have ih := sumF_le n fun j hj => h j (by omega)
    rw [sumF]
    by_cases c : k = n
    · subst c
      rw [if_neg (by omega)] at ih
      rw [if_pos (by omega)]
      grind
    · have h2 := h n (by omega) (by omega)
      by_cases d : k < n
      · rw [if_pos d] at ih; rw [if_pos (by omega)]; grind
      · rw [if_neg d] at ih; rw [if_neg (by omega)]; grind
theorem sumF_one (x : Nat → Rat) (i : Nat) : ∀ n, sumF (fun j => (if i = j then 1 else 0) * x j) n = if i < n then x i else 0
  | 0 => by simp [sumF]
  | n + 1 => by
    rw [sumF, sumF_one x i n]
    by_cases c : i = n
    · subst c
      rw [if_neg (by omega), if_pos rfl, if_pos (by omega)]; grind
    · rw [if_neg c]
      by_cases d : i < n
      · rw [if_pos d, if_pos (by omega)]; grind
      · rw [if_neg d, if_neg (by omega)]; grind
theorem getD_map {α β : Type} {f : α → β} {xs : List α} {i : Nat} {a : α} {b : β} (h : i < xs.length) : (xs.map f).getD i b = f (xs.getD i a) := by
  rw [List.getD_eq_getElem?_getD, List.getElem?_map, getD_some (d := a) h]; rfl
theorem getD_zipWith {f : Rat → Rat → Rat} {xs ys : List Rat} {i : Nat} (h : i < xs.length) (k : i < ys.length) : (List.zipWith f xs ys).getD i 0 = f (xs.getD i 0) (ys.getD i 0) := by
  rw [List.getD_eq_getElem?_getD, List.getElem?_zipWith, getD_some (d := 0) h, getD_some (d := 0) k]; rfl
theorem row_len {n : Nat} {rows : Mx} (h : Wide n rows) {i : Nat} (hi : i < n) : (rows.getD i []).length = n + 1 := h.2 _ (getD_mem (by rw [h.1]; exact hi))
theorem step_entry {n : Nat} {rows : Mx} {k i j : Nat} (h : Wide n rows) (hk : k < n) (hi : i < n) (hj : j ≤ n) :
    entry (elimStep rows k) i j = if i = k then entry rows k j / entry rows k k else entry rows i j - entry rows i k * (entry rows k j / entry rows k k) := by
  have e : (elimStep rows k).getD i [] = elimRow rows k i := by
    unfold elimStep
    rw [getD_map (a := 0) (by rw [List.length_range, h.1]; exact hi)]
    congr 1
    rw [List.getD_eq_getElem?_getD, List.getElem?_range (by rw [h.1]; exact hi)]; rfl
  have ed : ∀ j, j ≤ n → (divRow rows k).getD j 0 = entry rows k j / entry rows k k := fun j hj => by
    unfold divRow
    rw [getD_map (a := 0) (by rw [row_len h hk]; omega)]; rfl
  have ld : (divRow rows k).length = n + 1 := by unfold divRow; rw [List.length_map, row_len h hk]
  show ((elimStep rows k).getD i []).getD j 0 = _
  rw [e]
  unfold elimRow
  by_cases c : i = k
  · rw [if_pos c, if_pos c, ed j hj]
  · rw [if_neg c, if_neg c]
    by_cases z : entry rows i k = 0
    · rw [if_pos z, z, Rat.zero_mul]
      show entry rows i j = _
      grind
    · rw [if_neg z]
      unfold subRow
      rw [getD_zipWith (by rw [row_len h hi]; omega) (by rw [ld]; omega), ed j hj]
      rfl
/-- the system at turn k: an M-matrix -/
structure MM (n k : Nat) (u : Nat → Rat) (rows : Mx) : Prop where
  wide : Wide n rows
  uni : ∀ i j, i < n → j < k → entry rows i j = if i = j then 1 else 0
  off : ∀ i j, i < n → j < n → k ≤ j → i ≠ j → entry rows i j ≤ 0
  dg : ∀ i, i < n → k ≤ i → entry rows i i ≤ 1
  pos : ∀ i, i < n → 0 < sumF (fun j => entry rows i j * u j) n
  rhs : ∀ i, i < n → 0 ≤ entry rows i n
theorem MM.pivot {n k : Nat} {u : Nat → Rat} {rows : Mx} (h : MM n k u rows) (hu : ∀ j, j < n → 0 < u j) (hk : k < n) : 0 < entry rows k k := by
  have h1 := h.pos k hk
  have h2 := sumF_le (f := fun j => entry rows k j * u j) (k := k) n fun j hj hne => by
    by_cases c : j < k
    · rw [h.uni k j hk c, if_neg (by omega)]; grind
    · have a := h.off k j hk hj (by omega) (by omega)
      have := Rat.mul_nonneg (show 0 ≤ - entry rows k j by grind) (Rat.le_of_lt (hu j hj))
      grind
  rw [if_pos hk] at h2
  have h3 : 0 < entry rows k k * u k := by grind
  apply Rat.not_le.mp
  intro w
  have := Rat.mul_nonneg (show 0 ≤ - entry rows k k by grind) (Rat.le_of_lt (hu k hk))
  grind
theorem div_self' {p : Rat} (h : 0 < p) : p / p = 1 := by
  have := Rat.div_mul_cancel (a := p) (b := p) (Rat.ne_of_gt h)
  exact rat_cancel_eq h this
where
  rat_cancel_eq {p q : Rat} (h : 0 < p) (e : q * p = p) : q = 1 := by
    have a := rat_cancel (a := q) (b := 1) h (by grind)
    have b := rat_cancel (a := 1) (b := q) h (by grind)
    grind
theorem div_nn {q p : Rat} (hq : 0 ≤ q) (hp : 0 < p) : 0 ≤ q / p := by
  rw [Rat.div_def]; exact Rat.mul_nonneg hq (Rat.le_of_lt (Rat.inv_pos.mpr hp))
theorem div_np {q p : Rat} (hq : q ≤ 0) (hp : 0 < p) : q / p ≤ 0 := by
  have := Rat.mul_nonneg (show 0 ≤ -q by grind) (Rat.le_of_lt (Rat.inv_pos.mpr hp))
  rw [Rat.div_def]; grind
theorem MM.step {n k : Nat} {u : Nat → Rat} {rows : Mx} (h : MM n k u rows) (hu : ∀ j, j < n → 0 < u j) (hk : k < n) : MM n (k + 1) u (elimStep rows k) := by
  have hp := h.pivot hu hk
  have st := fun i j (hi : i < n) (hj : j ≤ n) => step_entry (i := i) (j := j) h.wide hk hi hj
  refine ⟨wide_step h.wide hk, fun i j hi hj => ?_, fun i j hi hj hkj hij => ?_, fun i hi hki => ?_, fun i hi => ?_, fun i hi => ?_⟩
  · rw [st i j hi (by omega)]
    by_cases cj : j = k
    · subst cj
      by_cases ci : i = j
      · rw [if_pos ci, if_pos ci, div_self' hp]
      · rw [if_neg ci, if_neg ci, div_self' hp]; grind
    · have e0 := h.uni k j hk (by omega)
      rw [if_neg (by omega)] at e0
      rw [e0]
      by_cases ci : i = k
      · rw [if_pos ci, if_neg (by omega), Rat.div_def, Rat.zero_mul]
      · rw [if_neg ci, h.uni i j hi (by omega), Rat.div_def, Rat.zero_mul]; grind
  · rw [st i j hi (by omega)]
    have kj := h.off k j hk hj (by omega) (by omega)
    by_cases ci : i = k
    · rw [if_pos ci]; exact div_np kj hp
    · rw [if_neg ci]
      have a := h.off i j hi hj (by omega) hij
      have b := h.off i k hi hk (Nat.le_refl _) ci
      have := Rat.mul_nonneg (show 0 ≤ - entry rows i k by grind) (show 0 ≤ - (entry rows k j / entry rows k k) by have := div_np kj hp; grind)
      grind
  · rw [st i i hi (by omega), if_neg (by omega)]
    have a := h.dg i hi (by omega)
    have b := h.off i k hi hk (Nat.le_refl _) (by omega)
    have kj := h.off k i hk hi (by omega) (by omega)
    have := Rat.mul_nonneg (show 0 ≤ - entry rows i k by grind) (show 0 ≤ - (entry rows k i / entry rows k k) by have := div_np kj hp; grind)
    grind
  · have e2 : sumF (fun j => entry rows k j / entry rows k k * u j) n = sumF (fun j => entry rows k j * u j) n * (entry rows k k)⁻¹ := by
      rw [← sumF_scale]
      exact sumF_congr n fun j _ => by rw [Rat.div_def]; grind
    have hpk : 0 < sumF (fun j => entry rows k j / entry rows k k * u j) n := by
      rw [e2]; exact Rat.mul_pos (h.pos k hk) (Rat.inv_pos.mpr hp)
    by_cases ci : i = k
    · rw [sumF_congr (g := fun j => entry rows k j / entry rows k k * u j) n fun j hj => by rw [st i j hi (by omega), if_pos ci]]
      exact hpk
    · rw [sumF_congr (g := fun j => entry rows i j * u j - entry rows i k * (entry rows k j / entry rows k k * u j)) n fun j hj => by rw [st i j hi (by omega), if_neg ci]; grind]
      rw [sumF_lin]
      have a := h.pos i hi
      have b := h.off i k hi hk (Nat.le_refl _) ci
      have := Rat.mul_nonneg (show 0 ≤ - entry rows i k by grind) (Rat.le_of_lt hpk)
      grind
  · rw [st i n hi (Nat.le_refl _)]
    have kn := div_nn (h.rhs k hk) hp
    by_cases ci : i = k
    · rw [if_pos ci]; exact kn
    · rw [if_neg ci]
      have a := h.rhs i hi
      have b := h.off i k hi hk (Nat.le_refl _) ci
      have := Rat.mul_nonneg (show 0 ≤ - entry rows i k by grind) kn
      grind
theorem MM.all {n : Nat} {u : Nat → Rat} {rows : Mx} (h : MM n 0 u rows) (hu : ∀ j, j < n → 0 < u j) : ∀ k, k ≤ n → MM n k u (elimN rows k)
  | 0, _ => h
  | k + 1, hk => by rw [elimN_succ]; exact (MM.all h hu k (by omega)).step hu (by omega)
/-! ### the solution -/
def Sol (n : Nat) (rows : Mx) (x : Nat → Rat) : Prop := ∀ i, i < n → sumF (fun j => entry rows i j * x j) n = entry rows i n
theorem sol_back {n k : Nat} {u : Nat → Rat} {rows : Mx} (h : MM n k u rows) (hu : ∀ j, j < n → 0 < u j) (hk : k < n) {x : Nat → Rat} (hs : Sol n (elimStep rows k) x) : Sol n rows x := by
  have hp := h.pivot hu hk
  have st := fun i j (hi : i < n) (hj : j ≤ n) => step_entry (i := i) (j := j) h.wide hk hi hj
  have e2 : sumF (fun j => entry rows k j / entry rows k k * x j) n = sumF (fun j => entry rows k j * x j) n * (entry rows k k)⁻¹ := by
    rw [← sumF_scale]
    exact sumF_congr n fun j _ => by rw [Rat.div_def]; grind
  have hk1 := hs k hk
  rw [st k n hk (Nat.le_refl _), if_pos rfl, sumF_congr (g := fun j => entry rows k j / entry rows k k * x j) n fun j hj => by rw [st k j hk (by omega), if_pos rfl]] at hk1
  intro i hi
  by_cases ci : i = k
  · subst ci
    rw [e2, Rat.div_def] at hk1
    have ip := Rat.inv_pos.mpr hp
    have a := rat_cancel ip (a := sumF (fun j => entry rows i j * x j) n) (b := entry rows i n) (by rw [hk1]; exact Rat.le_refl)
    have b := rat_cancel ip (b := sumF (fun j => entry rows i j * x j) n) (a := entry rows i n) (by rw [hk1]; exact Rat.le_refl)
    grind
  · have hi1 := hs i hi
    rw [st i n hi (Nat.le_refl _), if_neg ci, sumF_congr (g := fun j => entry rows i j * x j - entry rows i k * (entry rows k j / entry rows k k * x j)) n fun j hj => by rw [st i j hi (by omega), if_neg ci]; grind] at hi1
    rw [sumF_lin, hk1] at hi1
    grind
theorem sol_all {n : Nat} {u : Nat → Rat} {rows : Mx} (h : MM n 0 u rows) (hu : ∀ j, j < n → 0 < u j) {x : Nat → Rat} : ∀ k, k ≤ n → Sol n (elimN rows k) x → Sol n rows x
  | 0, _, hs => hs
  | k + 1, hk, hs => by
    rw [elimN_succ] at hs
    exact sol_all h hu k (by omega) (sol_back (h.all hu k (by omega)) hu (by omega) hs)
theorem last_entry {n : Nat} {rows : Mx} (h : Wide n rows) {i : Nat} (hi : i < n) : gt (lastCol rows) i = entry rows i n := by
  unfold lastCol gt
  rw [getD_map (a := []) (by rw [h.1]; exact hi)]
  have hl := row_len h hi
  show (rows.getD i []).getLastD 0 = (rows.getD i []).getD n 0
  rw [List.getLastD_eq_getLast?, List.getLast?_eq_getElem?, hl, List.getD_eq_getElem?_getD]
  rfl
theorem sol_last {n : Nat} {u : Nat → Rat} {rows : Mx} (h : MM n 0 u rows) (hu : ∀ j, j < n → 0 < u j) : Sol n rows (gt (lastCol (elimN rows n))) := by
  have hn := h.all hu n (Nat.le_refl _)
  refine sol_all h hu n (Nat.le_refl _) fun i hi => ?_
  rw [sumF_congr (g := fun j => (if i = j then 1 else 0) * gt (lastCol (elimN rows n)) j) n fun j hj => by rw [hn.uni i j hi hj], sumF_one, if_pos hi, last_entry hn.wide hi]
/-- two systems with the same left side -/
structure Cmp (n : Nat) (a b : Mx) : Prop where
  left : ∀ i j, i < n → j < n → entry a i j = entry b i j
  rhs : ∀ i, i < n → entry a i n ≤ entry b i n
theorem Cmp.step {n k : Nat} {u : Nat → Rat} {a b : Mx} (h : Cmp n a b) (ha : MM n k u a) (hb : MM n k u b) (hu : ∀ j, j < n → 0 < u j) (hk : k < n) : Cmp n (elimStep a k) (elimStep b k) := by
  have hp := hb.pivot hu hk
  have sa := fun i j (hi : i < n) (hj : j ≤ n) => step_entry (i := i) (j := j) ha.wide hk hi hj
  have sb := fun i j (hi : i < n) (hj : j ≤ n) => step_entry (i := i) (j := j) hb.wide hk hi hj
  refine ⟨fun i j hi hj => ?_, fun i hi => ?_⟩
  · rw [sa i j hi (by omega), sb i j hi (by omega), h.left k j hk hj, h.left k k hk hk, h.left i k hi hk, h.left i j hi hj]
  · rw [sa i n hi (Nat.le_refl _), sb i n hi (Nat.le_refl _), h.left k k hk hk, h.left i k hi hk]
    have r := h.rhs k hk
    have d := div_nn (show 0 ≤ entry b k n - entry a k n by grind) hp
    have e : (entry b k n - entry a k n) / entry b k k = entry b k n / entry b k k - entry a k n / entry b k k := by
      rw [Rat.div_def, Rat.div_def, Rat.div_def]; grind
    rw [e] at d
    by_cases ci : i = k
    · rw [if_pos ci, if_pos ci]; grind
    · rw [if_neg ci, if_neg ci]
      have ri := h.rhs i hi
      have o := hb.off i k hi hk (Nat.le_refl _) ci
      have := Rat.mul_nonneg (show 0 ≤ - entry b i k by grind) d
      grind
theorem Cmp.all {n : Nat} {u : Nat → Rat} {a b : Mx} (h : Cmp n a b) (ha : MM n 0 u a) (hb : MM n 0 u b) (hu : ∀ j, j < n → 0 < u j) : ∀ k, k ≤ n → Cmp n (elimN a k) (elimN b k)
  | 0, _ => h
  | k + 1, hk => by rw [elimN_succ, elimN_succ]; exact (Cmp.all h ha hb hu k (by omega)).step (ha.all hu k (by omega)) (hb.all hu k (by omega)) hu (by omega)
/-! ### the numbers' sizes -/
structure SzM (rows : Mx) (D M : Nat) : Prop where
  d0 : 0 < D
  m1 : 1 ≤ M
  bd : ∀ r ∈ rows, ∀ q ∈ r, Bd D M q
theorem SzM.step {n k D M : Nat} {rows : Mx} (h : SzM rows D M) (hw : Wide n rows) (hk : k < n) (p0 : 0 < entry rows k k) (p1 : entry rows k k ≤ 1) : ∃ D', D' ≤ D * D ∧ SzM (elimStep rows k) D' (2 * (M * M * D)) := by
  obtain ⟨e1, e2⟩ := entry_mem hw hk (j := k) (by omega)
  have bp := h.bd _ e2 _ e1
  obtain ⟨Pn, P0, PD, _, hdiv⟩ := bd_div h.d0 bp bp p0 p1
  have d0 := h.d0
  have m1 := h.m1
  have l1 : M * D ≤ M * M * D := Nat.mul_le_mul_right D (Nat.le_mul_of_pos_left M m1)
  have l0 : M ≤ M * D := Nat.le_mul_of_pos_right M d0
  have dv : ∀ q ∈ divRow rows k, Bd Pn (M * D) q := fun q hq => by
    unfold divRow at hq
    obtain ⟨y, hy, rfl⟩ := List.mem_map.mp hq
    exact hdiv y (h.bd _ e2 y hy)
  have sw : ∀ {q : Rat} {B : Nat}, Bd Pn B q → Bd (D * Pn) B q := fun hb => by rw [Nat.mul_comm]; exact hb.wide
  refine ⟨D * Pn, Nat.mul_le_mul_left D PD, Nat.mul_pos d0 P0, by omega, fun r hr q hq => ?_⟩
  unfold elimStep at hr
  obtain ⟨i, hi, rfl⟩ := List.mem_map.mp hr
  have hi := List.mem_range.mp hi
  have hir : rows.getD i [] ∈ rows := getD_mem hi
  unfold elimRow at hq
  by_cases c : i = k
  · rw [if_pos c] at hq
    exact (sw (dv q hq)).mono (by omega)
  · rw [if_neg c] at hq
    by_cases z : entry rows i k = 0
    · rw [if_pos z] at hq
      exact ((h.bd _ hir q hq).wide).mono (by omega)
    · rw [if_neg z] at hq
      unfold subRow at hq
      obtain ⟨j, hj⟩ := List.mem_iff_getElem?.mp hq
      rw [List.getElem?_zipWith] at hj
      cases ea : (rows.getD i [])[j]? with
      | none => rw [ea] at hj; simp at hj
      | some a =>
        cases eb : (divRow rows k)[j]? with
        | none => rw [ea, eb] at hj; simp at hj
        | some b =>
          rw [ea, eb] at hj
          have hj : a - (rows.getD i []).getD k 0 * b = q := by simpa using hj
          rw [← hj]
          have b1 := h.bd _ hir a (List.mem_of_getElem? ea)
          have b2 := dv b (List.mem_of_getElem? eb)
          have b3 := h.bd _ hir _ (entry_mem hw (i := i) (j := k) (by rw [hw.1] at hi; exact hi) (by omega)).1
          have b4 := (b1.wide (E := Pn)).sub (b3.mul b2)
          refine b4.mono ?_
          have : M * (M * D) = M * M * D := by rw [Nat.mul_assoc]
          omega
end WL
set_option Elab.async false
set_option linter.all false
set_option maxRecDepth 100000
set_option maxHeartbeats 800000
set_option exponentiation.threshold 5000
namespace WL
open PySem PySem.Spec PyProof.Rows L2
/-! the system of a cycle -/
theorem gt_zeros (n i : Nat) : gt (zerosV n) i = 0 := by
  unfold zerosV gt
  rw [List.getD_eq_getElem?_getD, List.getElem?_replicate]
  split <;> rfl
theorem gt_unit (n b i : Nat) : gt (unitV n b) i = if i < n ∧ i = b then 1 else 0 := by
  unfold unitV gt
  rw [List.getD_eq_getElem?_getD, List.getElem?_map]
  by_cases hi : i < n
  · rw [List.getElem?_range hi]
    by_cases h : i = b
    · rw [if_pos ⟨hi, h⟩]; simp [h]
    · rw [if_neg (by omega)]; simp [h]
  · rw [List.getElem?_eq_none (by simp; omega)]
    rw [if_neg (by omega)]; rfl
def truncV (n : Nat) (x : Nat → Rat) (m : Nat) : List Rat := (List.range n).map fun i => if i < m then x i else 0
theorem gt_trunc (n : Nat) (x : Nat → Rat) (m i : Nat) : gt (truncV n x m) i = if i < n ∧ i < m then x i else 0 := by
  unfold truncV gt
  rw [List.getD_eq_getElem?_getD, List.getElem?_map]
  by_cases hi : i < n
  · rw [List.getElem?_range hi]
    by_cases h : i < m <;> simp [h, hi]
  · rw [List.getElem?_eq_none (by simp; omega)]
    rw [if_neg (by omega)]; rfl
theorem trunc_all {n : Nat} {v : List Rat} (h : v.length = n) : truncV n (gt v) n = v := by
  apply List.ext_getElem?
  intro i
  unfold truncV
  rw [List.getElem?_map]
  by_cases hi : i < n
  · rw [List.getElem?_range hi, getD_some (d := 0) (by omega)]
    simp [hi]
  · rw [List.getElem?_eq_none (by simp; omega), List.getElem?_eq_none (by omega)]; rfl
theorem trunc_zero (n : Nat) (x : Nat → Rat) : truncV n x 0 = zerosV n := by
  unfold truncV zerosV
  rw [List.eq_replicate_iff]
  refine ⟨by simp, fun b hb => ?_⟩
  obtain ⟨i, _, rfl⟩ := List.mem_map.mp hb
  simp
theorem trunc_len (n : Nat) (x : Nat → Rat) (m : Nat) : (truncV n x m).length = n := by unfold truncV; simp
theorem zeros_len (n : Nat) : (zerosV n).length = n := by unfold zerosV; simp
theorem unit_len (n b : Nat) : (unitV n b).length = n := by unfold unitV; simp
/-- a shape: areas, a number of basins -/
structure Shp (n : Nat) (ar : List Nat) (c : Cst) : Prop where
  ea : c.r.ar = ar
  en : ar.length = n
  n0 : 1 ≤ n
  pos : ∀ a ∈ ar, 1 ≤ a
theorem Shp.like {n : Nat} {ar : List Nat} {c : Cst} (h : Shp n ar c) {v : List Rat} (hv : v.length = n) : Like n ar (withV c v) := ⟨h.ea, h.en, h.n0, hv, h.pos⟩
theorem Shp.dry {n : Nat} {ar : List Nat} {c : Cst} (h : Shp n ar c) : Shp n ar (dry c) := ⟨h.ea, h.en, h.n0, h.pos⟩
/-- what basin i has behind a round of a volume of 1 in basin j, the seas dry -/
def matA (c : Cst) (o : List Nat) (i j : Nat) : Rat := gt (afterC (withV (dry c) (unitV c.r.ar.length j)) o).r.vo i
theorem zero_after {n : Nat} {ar : List Nat} : ∀ (o : List Nat) {c : Cst}, Like n ar c → c.lf = none → c.rt = none → (∀ i, gt c.r.vo i = 0) → (∀ k ∈ o, k ≤ n) → ∀ i, gt (afterC c o).r.vo i = 0
  | [], c, _, _, _, h, _ => h
  | k :: o, c, hl, l, r, h, ho => by
    have hk := ho k (by simp)
    refine zero_after o (c := copen c k) (hl.open hk) l r (fun i => ?_) fun j hj => ho j (List.mem_cons_of_mem _ hj)
    rw [hl.gt hk, l, r, h, h, h]
    have z : (none : Option Rat).getD 0 = 0 := rfl
    rw [z]
    split
    · split <;> grind
    · split
      · split <;> grind
      · split
        · grind
        · split <;> grind
theorem dry_zero {n : Nat} {ar : List Nat} {c : Cst} {o : List Nat} (h : Shp n ar c) (ho : ∀ k ∈ o, k ≤ n) (i : Nat) : gt (afterC (withV (dry c) (zerosV n)) o).r.vo i = 0 :=
  zero_after o (h.dry.like (zeros_len n)) rfl rfl (gt_zeros n) ho i
theorem dry_mono {n : Nat} {ar : List Nat} {c : Cst} {o : List Nat} (h : Shp n ar c) (ho : ∀ k ∈ o, k ≤ n) {v : List Rat} (hv : v.length = n) (hn : ∀ i, 0 ≤ gt v i) (i : Nat) : 0 ≤ gt (afterC (withV (dry c) v) o).r.vo i := by
  have b : Below n ar (withV (dry c) (zerosV n)) (withV (dry c) v) := ⟨h.dry.like (zeros_len n), h.dry.like hv, fun i => by show gt (zerosV n) i ≤ gt v i; rw [gt_zeros]; exact hn i, Rat.le_refl, Rat.le_refl⟩
  have := (b.after o ho).le i
  rwa [dry_zero h ho] at this
theorem matA_nn {n : Nat} {ar : List Nat} {c : Cst} {o : List Nat} (h : Shp n ar c) (ho : ∀ k ∈ o, k ≤ n) (i j : Nat) : 0 ≤ matA c o i j := by
  unfold matA
  have e : c.r.ar.length = n := by rw [h.ea, h.en]
  rw [e]
  refine dry_mono h ho (unit_len n j) (fun i => ?_) i
  rw [gt_unit]; split <;> decide
/-- a round is an affine map -/
theorem aff_to {n : Nat} {ar : List Nat} {c : Cst} {o : List Nat} (h : Shp n ar c) (ho : ∀ k ∈ o, k ≤ n) (x : Nat → Rat) (i : Nat) : ∀ m, m ≤ n → gt (afterC (withV c (truncV n x m)) o).r.vo i = gt (afterC (withV c (zerosV n)) o).r.vo i + sumF (fun j => matA c o i j * x j) m
  | 0, _ => by rw [trunc_zero, sumF]; grind
  | m + 1, hm => by
    have ih := aff_to h ho x i m (by omega)
    have e : c.r.ar.length = n := by rw [h.ea, h.en]
    have s : Sum3 n ar (x m) (withV c (truncV n x (m + 1))) (withV (dry c) (unitV n m)) (withV c (truncV n x m)) := by
      refine ⟨h.like (trunc_len n x _), h.dry.like (unit_len n m), h.like (trunc_len n x m), fun i => ?_, rfl, rfl, rfl, rfl⟩
      show gt (truncV n x (m + 1)) i = x m * gt (unitV n m) i + gt (truncV n x m) i
      rw [gt_trunc, gt_unit, gt_trunc]
      by_cases hi : i < n
      · by_cases c1 : i = m
        · subst c1
          rw [if_pos ⟨hi, by omega⟩, if_pos ⟨hi, rfl⟩, if_neg (by omega)]; grind
        · rw [if_neg (c := i < n ∧ i = m) (by omega)]
          by_cases c2 : i < m
          · rw [if_pos ⟨hi, by omega⟩, if_pos ⟨hi, c2⟩]; grind
          · rw [if_neg (by omega), if_neg (by omega)]; grind
      · rw [if_neg (by omega), if_neg (by omega), if_neg (by omega)]; grind
    have := (s.after o ho).eq i
    rw [this, ih, sumF]
    have em : gt (afterC (withV (dry c) (unitV n m)) o).r.vo i = matA c o i m := by unfold matA; rw [e]
    rw [em]; grind
theorem aff {n : Nat} {ar : List Nat} {c : Cst} {o : List Nat} (h : Shp n ar c) (ho : ∀ k ∈ o, k ≤ n) {v : List Rat} (hv : v.length = n) (i : Nat) : gt (afterC (withV c v) o).r.vo i = gt (afterC (withV c (zerosV n)) o).r.vo i + sumF (fun j => matA c o i j * gt v j) n := by
  have := aff_to h ho (gt v) i n (Nat.le_refl _)
  rwa [trunc_all hv] at this
theorem col_at {n : Nat} {ar : List Nat} {c : Cst} {o : List Nat} (h : Shp n ar c) (oc : OrdC c o) (ho : ∀ k ∈ o, k ≤ n) {i : Nat} (hi : i < n) (j : Nat) : gt (colV c o j) i = matA c o i j := by
  have e : c.r.ar.length = n := by rw [h.ea, h.en]
  unfold colV gt
  rw [getD_zipWith (by rw [lateV_len oc, e]; exact hi) (by rw [noneV_len oc, e]; exact hi)]
  have s : Sum3 n ar 1 (withV c (unitV n j)) (withV (dry c) (unitV n j)) (withV c (zerosV n)) := by
    refine ⟨h.like (unit_len n j), h.dry.like (unit_len n j), h.like (zeros_len n), fun i => ?_, rfl, rfl, rfl, rfl⟩
    show gt (unitV n j) i = 1 * gt (unitV n j) i + gt (zerosV n) i
    rw [gt_zeros]; grind
  have := (s.after o ho).eq i
  have e1 : (lateV c o j).getD i 0 = gt (afterC (withV c (unitV n j)) o).r.vo i := by unfold lateV; rw [e]
  have e2 : (noneV c o).getD i 0 = gt (afterC (withV c (zerosV n)) o).r.vo i := by unfold noneV; rw [e]
  have em : gt (afterC (withV (dry c) (unitV n j)) o).r.vo i = matA c o i j := by unfold matA; rw [e]
  rw [e1, e2, this, em]; grind
theorem cyc_row {c : Cst} {o : List Nat} {i : Nat} (hi : i < c.r.ar.length) : (cycM c o).getD i [] = cycRow c o i := by
  unfold cycM
  rw [getD_map (a := 0) (by rw [List.length_range]; exact hi)]
  congr 1
  rw [List.getD_eq_getElem?_getD, List.getElem?_range hi]; rfl
theorem cyc_entry {n : Nat} {ar : List Nat} {c : Cst} {o : List Nat} (h : Shp n ar c) (oc : OrdC c o) (ho : ∀ k ∈ o, k ≤ n) {i j : Nat} (hi : i < n) (hj : j < n) : entry (cycM c o) i j = (if i = j then 1 else 0) - matA c o i j := by
  have e : c.r.ar.length = n := by rw [h.ea, h.en]
  unfold entry
  rw [cyc_row (by omega)]
  unfold cycRow
  rw [List.getD_eq_getElem?_getD, List.getElem?_append_left (by simp; omega), List.getElem?_map, List.getElem?_range (by omega)]
  show (if i = j then 1 else 0) - gt (colV c o j) i = _
  rw [col_at h oc ho hi]
theorem cyc_rhs {n : Nat} {ar : List Nat} {c : Cst} {o : List Nat} (h : Shp n ar c) {i : Nat} (hi : i < n) : entry (cycM c o) i n = gt (afterC (withV c (zerosV n)) o).r.vo i := by
  have e : c.r.ar.length = n := by rw [h.ea, h.en]
  unfold entry
  rw [cyc_row (by omega)]
  unfold cycRow
  rw [List.getD_eq_getElem?_getD, List.getElem?_append_right (by simp; omega)]
  simp only [List.length_map, List.length_range]
  rw [e, Nat.sub_self]
  show (noneV c o).getD i 0 = _
  unfold noneV; rw [e]
def uF (ar : List Nat) (j : Nat) : Rat := ((ar.getD j 0 : Nat) : Rat)
/-- an order that washes a coast with both seas -/
structure Wash (n : Nat) (ar : List Nat) (c : Cst) (ex : List Nat) : Prop where
  shp : Shp n ar c
  ok : CoOk c
  l : c.lf.isSome = true
  r : c.rt.isSome = true
  le' : ∀ k ∈ ex, k ≤ n
  e3 : ex.length ≤ 3
theorem Wash.n7 {n : Nat} {ar : List Nat} {c : Cst} {ex : List Nat} (h : Wash n ar c ex) : n ≤ 7 := by
  have := h.ok.n7; rw [h.shp.ea, h.shp.en] at this; exact this
theorem Wash.le {n : Nat} {ar : List Nat} {c : Cst} {ex : List Nat} (h : Wash n ar c ex) : ∀ k ∈ washO n ex, k ≤ n := fun k hk => by
  rcases List.mem_append.mp hk with z | z
  · have := List.mem_range.mp z; omega
  · exact h.le' k z
theorem Wash.inC {n : Nat} {ar : List Nat} {c : Cst} {ex : List Nat} (h : Wash n ar c ex) {k : Nat} (hk : k ≤ n) : InC c k := by
  have e : c.r.ar.length = n := by rw [h.shp.ea, h.shp.en]
  unfold InC
  rw [e]
  by_cases a : k = 0
  · exact .inl ⟨a, h.l⟩
  · by_cases b : k = n
    · exact .inr (.inl ⟨b, h.r⟩)
    · exact .inr (.inr ⟨by omega, by omega⟩)
theorem wash_len (n : Nat) (ex : List Nat) : (washO n ex).length = n + 1 + ex.length := by unfold washO; simp
theorem Wash.ord {n : Nat} {ar : List Nat} {c : Cst} {ex : List Nat} (h : Wash n ar c ex) : OrdC c (washO n ex) := ⟨h.ok, fun k hk => h.inC (h.le k hk), by rw [wash_len]; have := h.n7; have := h.e3; omega⟩
theorem Wash.mm {n : Nat} {ar : List Nat} {c : Cst} {ex : List Nat} (h : Wash n ar c ex) : MM n 0 (uF ar) (cycM c (washO n ex)) := by
  have e : c.r.ar.length = n := by rw [h.shp.ea, h.shp.en]
  have ho := h.le
  have ent := fun {i j : Nat} (hi : i < n) (hj : j < n) => cyc_entry h.shp h.ord ho hi hj
  refine ⟨by have := cycM_wide c (washO n ex); rwa [e] at this, fun i j _ hj => by omega, fun i j hi hj _ hij => ?_, fun i hi _ => ?_, fun i hi => ?_, fun i hi => ?_⟩
  · rw [ent hi hj, if_neg hij]
    have := matA_nn h.shp ho i j
    grind
  · rw [ent hi hi, if_pos rfl]
    have := matA_nn h.shp ho i i
    grind
  · let uL : List Rat := ar.map fun a => ((a : Nat) : Rat)
    have lu : uL.length = n := by show (ar.map _).length = n; rw [List.length_map, h.shp.en]
    have gu : ∀ i, i < n → gt uL i = uF ar i := fun i hi => getD_map (a := 0) (by rw [h.shp.en]; exact hi)
    have gu2 : ∀ i, 0 ≤ gt uL i := fun i => by
      by_cases hi : i < n
      · rw [gu i hi]; exact Rat.natCast_nonneg
      · show 0 ≤ uL.getD i 0
        rw [List.getD_eq_getElem?_getD, List.getElem?_eq_none (by omega)]; decide
    have low : Low1 n 0 ar (withV (dry c) uL) := ⟨h.shp.dry.like lu, rfl, rfl, gu2, fun i hi => by show gt uL i ≤ _; rw [gu i hi]; exact Rat.le_refl, fun i hi => by omega⟩
    have lt := (low.wash h.le').lt i hi
    have af := aff h.shp.dry ho lu i
    rw [dry_zero h.shp ho] at af
    have ed : dry (dry c) = dry c := rfl
    have em : ∀ j, matA (dry c) (washO n ex) i j = matA c (washO n ex) i j := fun j => rfl
    rw [af] at lt
    rw [sumF_congr (g := fun j => (if i = j then 1 else 0) * uF ar j - 1 * (matA c (washO n ex) i j * uF ar j)) n fun j hj => by rw [ent hi hj]; grind]
    rw [sumF_lin, sumF_one, if_pos hi]
    have e4 : sumF (fun j => matA (dry c) (washO n ex) i j * gt uL j) n = sumF (fun j => matA c (washO n ex) i j * uF ar j) n := sumF_congr n fun j hj => by rw [gu j hj, em]
    rw [e4] at lt
    have e5 : ((ar.getD i 0 : Nat) : Rat) = uF ar i := rfl
    rw [e5] at lt
    grind
  · rw [cyc_rhs h.shp hi]
    have f := (h.ord.none).fin
    rw [e] at f
    have hl := f.1.ok.len
    rw [(after_same _ _).1] at hl
    have hl2 : (afterC (withV c (zerosV n)) (washO n ex)).r.vo.length = n := hl.trans e
    exact f.1.ok.nn _ (getD_mem (by rw [hl2]; exact hi))
theorem uF_pos {n : Nat} {ar : List Nat} {c : Cst} (h : Shp n ar c) : ∀ j, j < n → 0 < uF ar j := fun j hj => ar_pos h.pos (by rw [h.en]; exact hj)
/-- the cycle's volumes -/
theorem Wash.x {n : Nat} {ar : List Nat} {c : Cst} {ex : List Nat} (h : Wash n ar c ex) : (cycX c (washO n ex)).length = n ∧ (∀ q ∈ cycX c (washO n ex), 0 ≤ q) ∧ (afterC (withV c (cycX c (washO n ex))) (washO n ex)).r.vo = cycX c (washO n ex) := by
  have e : c.r.ar.length = n := by rw [h.shp.ea, h.shp.en]
  have mm := h.mm
  have hn := mm.all (uF_pos h.shp) n (Nat.le_refl _)
  have lx : (cycX c (washO n ex)).length = n := by unfold cycX lastCol; rw [List.length_map, e, hn.wide.1]
  have ex' : cycX c (washO n ex) = lastCol (elimN (cycM c (washO n ex)) n) := by unfold cycX; rw [e]
  refine ⟨lx, fun q hq => ?_, ?_⟩
  · obtain ⟨i, hi⟩ := List.mem_iff_getElem?.mp hq
    have hin : i < n := by have := (List.getElem?_eq_some_iff.mp hi).1; omega
    have := last_entry hn.wide hin
    rw [← ex'] at this
    have e2 : gt (cycX c (washO n ex)) i = q := by show (cycX c (washO n ex)).getD i 0 = q; rw [List.getD_eq_getElem?_getD, hi]; rfl
    rw [← e2, this]
    exact hn.rhs i hin
  · have sol := sol_last mm (uF_pos h.shp)
    rw [← ex'] at sol
    have la := (Like.after (washO n ex) (h.shp.like lx) h.le).len
    apply List.ext_getElem?
    intro i
    by_cases hi : i < n
    · rw [getD_some (d := 0) (by omega), getD_some (d := 0) (by omega)]
      congr 1
      have s := sol i hi
      rw [cyc_rhs h.shp hi, sumF_congr (g := fun j => (if i = j then 1 else 0) * gt (cycX c (washO n ex)) j - 1 * (matA c (washO n ex) i j * gt (cycX c (washO n ex)) j)) n fun j hj => by rw [cyc_entry h.shp h.ord h.le hi hj]; grind] at s
      rw [sumF_lin, sumF_one, if_pos hi] at s
      have a := aff h.shp h.le lx i
      show gt (afterC (withV c (cycX c (washO n ex))) (washO n ex)).r.vo i = gt (cycX c (washO n ex)) i
      rw [a]
      grind
    · rw [List.getElem?_eq_none (by omega), List.getElem?_eq_none (by omega)]
/-- with more water from the seas the cycle has more -/
theorem cyc_mono {n : Nat} {ar : List Nat} {c d : Cst} {ex : List Nat} (hc : Wash n ar c ex) (hd : Wash n ar d ex) (hl : c.lf.getD 0 ≤ d.lf.getD 0) (hr : c.rt.getD 0 ≤ d.rt.getD 0) : ∀ i, gt (cycX c (washO n ex)) i ≤ gt (cycX d (washO n ex)) i := by
  have ec : c.r.ar.length = n := by rw [hc.shp.ea, hc.shp.en]
  have ed : d.r.ar.length = n := by rw [hd.shp.ea, hd.shp.en]
  have mc := hc.mm
  have md := hd.mm
  have ho := hc.le
  have edry : ∀ v, withV (dry c) v = withV (dry d) v := fun v => by
    have e1 : c.r.ar = d.r.ar := by rw [hc.shp.ea, hd.shp.ea]
    have e2 : c.r.lk = d.r.lk := by rw [hc.ok.lk, hd.ok.lk]
    show (⟨⟨c.r.ar, v, c.r.lk⟩, none, none⟩ : Cst) = ⟨⟨d.r.ar, v, d.r.lk⟩, none, none⟩
    rw [e1, e2]
  have cmp : Cmp n (cycM c (washO n ex)) (cycM d (washO n ex)) := by
    refine ⟨fun i j hi hj => ?_, fun i hi => ?_⟩
    · rw [cyc_entry hc.shp hc.ord ho hi hj, cyc_entry hd.shp hd.ord ho hi hj]
      unfold matA
      rw [ec, ed, edry]
    · rw [cyc_rhs hc.shp hi, cyc_rhs hd.shp hi]
      have b : Below n ar (withV c (zerosV n)) (withV d (zerosV n)) := ⟨hc.shp.like (zeros_len n), hd.shp.like (zeros_len n), fun _ => Rat.le_refl, hl, hr⟩
      exact (b.after _ ho).le i
  have fin := cmp.all mc md (uF_pos hc.shp) n (Nat.le_refl _)
  have wc := (mc.all (uF_pos hc.shp) n (Nat.le_refl _)).wide
  have wd := (md.all (uF_pos hc.shp) n (Nat.le_refl _)).wide
  intro i
  by_cases hi : i < n
  · have e1 : cycX c (washO n ex) = lastCol (elimN (cycM c (washO n ex)) n) := by unfold cycX; rw [ec]
    have e2 : cycX d (washO n ex) = lastCol (elimN (cycM d (washO n ex)) n) := by unfold cycX; rw [ed]
    rw [e1, e2, last_entry wc hi, last_entry wd hi]
    exact fin.rhs i hi
  · have l1 := hc.x.1
    have l2 := hd.x.1
    show (cycX c (washO n ex)).getD i 0 ≤ (cycX d (washO n ex)).getD i 0
    rw [List.getD_eq_getElem?_getD, List.getD_eq_getElem?_getD, List.getElem?_eq_none (by omega), List.getElem?_eq_none (by omega)]
    exact Rat.le_refl
end WL
set_option Elab.async false
set_option linter.all false
set_option maxRecDepth 100000
set_option maxHeartbeats 4000000
namespace WL
open PySem PySem.Spec PyProof.Rows L2
def candA (x : Rw) (h : Rat) (p i : Nat) : Rat := Wv x i - h * (((Xv x i : Int) - (Xv x p : Int) : Int) : Rat)
def candB (x : Rw) (p i j : Nat) : Rat := Wv x i - (Wv x i - Wv x j) / (((Xv x i : Int) - (Xv x j : Int) : Int) : Rat) * (((Xv x i : Int) - (Xv x p : Int) : Int) : Rat)
def bentRow (x : Rw) (h : Rat) (p i : Nat) : List Rat := candA x h p (p + i) :: (List.range p).map (candB x p (p + i))
def bentTo (x : Rw) (h : Rat) (p k : Nat) : List Rat := (List.range k).flatMap (bentRow x h p)
def bentL (x : Rw) (h : Rat) (p : Nat) : List Rat := bentTo x h p (x.ar.length + 1 - p)
def bentV (x : Rw) (h : Rat) (p : Nat) (up : Bool) : Rat := if up = true then maxQ (bentL x h p) else minQ (bentL x h p)
structure CandOk (x : Rw) (h : Rat) (p i : Nat) : Prop where
  wi : Sm (Wv x i)
  ar : Sm (((Xv x i : Int) - (Xv x p : Int) : Int) : Rat)
  th : Sm (h * (((Xv x i : Int) - (Xv x p : Int) : Int) : Rat))
  a : Sz 4000 1000 (candA x h p i)
theorem cand_a {x : Rw} {h : Rat} {p i : Nat} (hs : RowSz x) (hx : RowOk x) (hh : Bd 2 8 h) (sh : Sm h) : CandOk x h p i := by
  have a1 := hs.w hx i
  have l1 := Xv_le hx i
  have l2 := Xv_le hx p
  have b1 : ((Xv x i : Int) - (Xv x p : Int)).natAbs < 2 ^ 15 := by omega
  have c1 := sz_int b1
  have sz : Sz 5 2 h := by
    have d := hh.den (by decide)
    refine ⟨?_, by omega⟩
    have := hh.num
    have e : 8 * h.den ≤ 16 := by omega
    omega
  have d1 := sz_mul sz c1
  have d2 := sz_sub a1 d1
  exact ⟨a1.mono (by decide) (by decide), c1.mono (by decide) (by decide), d1.mono (by decide) (by decide), d2.mono (by decide) (by decide)⟩
structure CandBOk (x : Rw) (p i j : Nat) : Prop where
  wj : Sm (Wv x j)
  dw : Sm (Wv x i - Wv x j)
  dx : Sm (((Xv x i : Int) - (Xv x j : Int) : Int) : Rat)
  dx0 : (0 : Rat) < (((Xv x i : Int) - (Xv x j : Int) : Int) : Rat)
  dxs : ((((Xv x i : Int) - (Xv x j : Int) : Int) : Rat)).num.natAbs < 2 ^ 4500
  rise : Sm ((Wv x i - Wv x j) / (((Xv x i : Int) - (Xv x j : Int) : Int) : Rat))
  up : Sm ((Wv x i - Wv x j) / (((Xv x i : Int) - (Xv x j : Int) : Int) : Rat) * (((Xv x i : Int) - (Xv x p : Int) : Int) : Rat))
  b : Sz 4000 1000 (candB x p i j)
theorem cand_b {x : Rw} {p i j : Nat} (hs : RowSz x) (hx : RowOk x) (hij : j < i) (hi : i ≤ x.ar.length) : CandBOk x p i j := by
  have a1 := hs.w hx i
  have a2 := hs.w hx j
  have hlt := Xv_lt hx hij hi
  have l1 := Xv_le hx i
  have l2 := Xv_le hx p
  have l3 := Xv_le hx j
  have b1 : ((Xv x i : Int) - (Xv x j : Int)).natAbs < 2 ^ 15 := by omega
  have b2 : ((Xv x i : Int) - (Xv x p : Int)).natAbs < 2 ^ 15 := by omega
  have c1 := sz_int b1
  have c2 := sz_int b2
  have p0 : (0 : Rat) < (((Xv x i : Int) - (Xv x j : Int) : Int) : Rat) := by exact_mod_cast (show (0 : Int) < (Xv x i : Int) - (Xv x j : Int) by omega)
  have d1 := sz_sub a1 a2
  have d2 := sz_div d1 c1 (Rat.ne_of_gt p0)
  have d3 := sz_mul d2 c2
  have d4 := sz_sub a1 d3
  exact ⟨a2.mono (by decide) (by decide), d1.mono (by decide) (by decide), c1.mono (by decide) (by decide), p0, Nat.lt_of_lt_of_le c1.1 (Nat.pow_le_pow_right (by decide) (by decide)), d2.mono (by decide) (by decide), d3.mono (by decide) (by decide), d4.mono (by decide) (by decide)⟩
theorem bentTo_len (x : Rw) (h : Rat) (p k : Nat) : (bentTo x h p k).length ≤ k * (p + 1) := flat_len _ _ k fun i _ => by unfold bentRow; simp
theorem bentTo_succ (x : Rw) (h : Rat) (p k : Nat) : bentTo x h p (k + 1) = bentTo x h p k ++ bentRow x h p k := range_flat_succ _ k
theorem bent_mem {x : Rw} {h : Rat} {p k : Nat} {q : Rat} (hq : q ∈ bentTo x h p k) : ∃ i, i < k ∧ (q = candA x h p (p + i) ∨ ∃ j, j < p ∧ q = candB x p (p + i) j) := by
  unfold bentTo at hq
  obtain ⟨i, hi, hm⟩ := List.mem_flatMap.mp hq
  refine ⟨i, List.mem_range.mp hi, ?_⟩
  unfold bentRow at hm
  rcases List.mem_cons.mp hm with z | z
  · exact .inl z
  · obtain ⟨j, hj, rfl⟩ := List.mem_map.mp z
    exact .inr ⟨j, List.mem_range.mp hj, rfl⟩
theorem bentL_ne {x : Rw} {h : Rat} {p : Nat} (hp : p ≤ x.ar.length) : bentL x h p ≠ [] := by
  intro z
  have e : x.ar.length + 1 - p = (x.ar.length - p) + 1 := by omega
  unfold bentL at z
  rw [e, bentTo_succ] at z
  have := (List.append_eq_nil_iff.mp z).2
  unfold bentRow at this
  cases this
theorem sm_of_sz {q : Rat} (h : Sz 4000 1000 q) : Sm q := h.mono (by decide) (by decide)
theorem bent_sm {x : Rw} {h : Rat} {p : Nat} (hs : RowSz x) (hx : RowOk x) (hh : Bd 2 8 h) (sh : Sm h) : ∀ q ∈ bentL x h p, Sz 4000 1000 q := fun q hq => by
  obtain ⟨i, hi, z | ⟨j, hj, z⟩⟩ := bent_mem hq
  · rw [z]; exact (cand_a hs hx hh sh).a
  · rw [z]; exact (cand_b hs hx (by omega) (by omega)).b
theorem maxQ_mem : ∀ {qs : List Rat}, qs ≠ [] → maxQ qs ∈ qs
  | [], h => absurd rfl h
  | a :: as, _ => fold_mem (S := fun q => q ∈ a :: as) (fun a b => by by_cases h : a < b <;> simp [h]) as a (by simp) fun x hx => by simp [hx]
theorem minQ_mem : ∀ {qs : List Rat}, qs ≠ [] → minQ qs ∈ qs
  | [], h => absurd rfl h
  | a :: as, _ => fold_mem (S := fun q => q ∈ a :: as) (fun a b => by by_cases h : b < a <;> simp [h]) as a (by simp) fun x hx => by simp [hx]
theorem bentV_sz {x : Rw} {h : Rat} {p : Nat} {up : Bool} (hs : RowSz x) (hx : RowOk x) (hh : Bd 2 8 h) (sh : Sm h) (hp : p ≤ x.ar.length) : Sz 4000 1000 (bentV x h p up) := by
  unfold bentV
  split
  · exact bent_sm hs hx hh sh _ (maxQ_mem (bentL_ne hp))
  · exact bent_sm hs hx hh sh _ (minQ_mem (bentL_ne hp))
theorem sm_ht {h : Rat} (hh : Bd 2 8 h) : Sm h := hh.sm (by decide) (Nat.lt_of_lt_of_le (show 2 < 2 ^ 2 by decide) (Nat.pow_le_pow_right (by decide) (by decide))) (Nat.lt_of_lt_of_le (show 8 * 2 < 2 ^ 5 by decide) (Nat.pow_le_pow_right (by decide) (by decide)))
section
variable {P : Program} {w : World} {K : PySem.W.Frag} {mg : Str → Option Value} {base : Heap}
def RSeaLine (K : PySem.W.Frag) (ds : List D) (r : D) : Prop := ∃ c, ds = [coastD K c] ∧ RowOk c.r ∧ RowSz c.r ∧ r = pointsD c.r
abbrev C_sea_line (P : Program) (w : World) (K : PySem.W.Frag) (mg : Str → Option Value) (base : Heap) : Prop := Fn P w K mg base "sea_line" ["coast"] 5 (SpP ⟨P, w, K⟩ (RSeaLine K)) []
theorem sc_sea_line : FnScope ["coast"] ["coast"] (defScope s_sea_line) := ⟨rfl, rfl, rfl, by decide +kernel, rfl, by decide +kernel, by decide +kernel⟩
theorem fn_sea_line (T : Tx K mg) (F : Dfn K mg "sea_line" s_sea_line []) (Mreaches : M_reaches P w K mg base) (Msums : M_sums P w K mg base) : C_sea_line P w K mg base := by
  have sc := sc_sea_line
  refine F.fn (fun _ _ _ _ _ _ us hl => match us, hl with | [_], _ => rfl) fun f fd F => ?_
  refine fn_pure F sc (by rintro ds r ⟨_, rfl, _⟩; rfl) (by decide) fun cdv A outer s H ds r hr hR => ?_
  obtain ⟨c, rfl, hx, hs, rfl⟩ := hR
  have hm := hx.most
  exact sds_one (sd_ret (PL.lst (pl_listZ T.list T.zip (pd_meth0 (r := .lst ((nsums c.r.ar).map nD)) Mreaches (hr.mono (by decide)) dfl_nil (pd_fld (d := rowD K c.r) (pd_var 0 rfl) T.clCoast T.noCoast_row rfl) rfl ⟨c.r, rfl, by omega, rfl⟩) (pd_meth0 (r := .lst ((psums c.r.vo).map qd)) Msums (hr.mono (by decide)) dfl_nil (pd_fld (d := rowD K c.r) (pd_var 0 rfl) T.clCoast T.noCoast_row rfl) rfl ⟨c.r, rfl, by rw [hx.len]; omega, hs.q, hs.sums hx, rfl⟩))) rfl)
def RBent (ds : List D) (r : D) : Prop := ∃ x h p up, ds = [pointsD x, qd h, nD p, .bl up] ∧ RowOk x ∧ RowSz x ∧ Bd 2 8 h ∧ p ≤ x.ar.length ∧ r = qd (bentV x h p up)
abbrev C_bent (P : Program) (w : World) (K : PySem.W.Frag) (mg : Str → Option Value) (base : Heap) : Prop := Fn P w K mg base "bent" ["points", "height", "place", "is_upper"] 4 (SpP ⟨P, w, K⟩ RBent) []
theorem sc_bent : FnScope ["points", "height", "place", "is_upper", "found", "late", "area", "one", "rise"] ["points", "height", "place", "is_upper"] (defScope s_bent) := ⟨rfl, rfl, rfl, by decide +kernel, rfl, by decide +kernel, by decide +kernel⟩
theorem fn_bent (T : Tx K mg) (F : Dfn K mg "bent" s_bent []) (Fpart : C_part1 P w K mg base) (Fminus : C_minus P w K mg base) (Ftimes : C_times P w K mg base) (Fover : C_over P w K mg base) (Fgreatest : C_greatest P w K mg base) (Fleast : C_least P w K mg base) : C_bent P w K mg base := by
  have sc := sc_bent
  refine F.fn (fun _ _ _ _ _ _ us hl => match us, hl with | [_, _, _, _], _ => rfl) fun f fd F => ?_
  refine fn_pure F sc (by rintro ds r ⟨_, _, _, _, rfl, _⟩; rfl) (by decide) fun cdv A outer s H ds r hr hR => ?_
  obtain ⟨x, h, p, up, rfl, hx, hs, hh, hp, rfl⟩ := hR
  have sh := sm_ht hh
  have hm := hx.most
  have plen : (ptList x).length = x.ar.length + 1 := by
    unfold ptList
    rw [zipD_len, List.length_map, List.length_map, nsums_len, psums_len, hx.len]
    exact Nat.min_self _
  have gp := pt_at hx hp
  refine sds_cons (sd_asgL 4 (pl_lst pad_nil (lenOk rfl)) (fun l => ?_) sc.nd)
  refine sds_cons (sd_for (fun k ρ => ∃ e5 e6 e7 e8, ρ = [.d (pointsD x), .d (qd h), .d (nD p), .d (.bl up), .own l (.lst ((bentTo x h p k).map qd)), e5, e6, e7, e8]) (src_range2 T.range (pd_var 2 rfl) (PD.is (pd_len T.len (pd_var 0 rfl) rfl) (show D.int (((ptList x).length : Nat) : Int) = D.int ((x.ar.length + 1 : Nat) : Int) by rw [plen])) (by omega)) ⟨_, _, _, _, rfl⟩ (fun k d ρ hd hI => ?_) (fun ρ hI => ?_))
  · obtain ⟨e5, e6, e7, e8, rfl⟩ := hI
    have hk : p + k ≤ x.ar.length := by have := (List.getElem?_eq_some_iff.mp hd).1; rw [rgFrom_len] at this; omega
    rw [rgFrom_get (by omega)] at hd
    cases hd
    have ek : (p : Int) + (k : Int) = ((p + k : Nat) : Int) := by omega
    rw [ek]
    have gi := pt_at hx hk
    have oka := cand_a (h := h) (p := p) (i := p + k) hs hx hh sh
    have blen := bentTo_len x h p k
    have hb2 : k * (p + 1) ≤ 24 * 25 := Nat.mul_le_mul (by omega) (by omega)
    refine ⟨_, _, (gd_name 5 sc.nd), ?_⟩
    refine sds_cons (sd_asg (d := qd (((Xv x (p + k) : Int) - (Xv x p : Int) : Int) : Rat)) 6 (pd_call Fpart (hr.mono (by decide)) dfl_one (pad_cons (pd_sub (pd_at (d := nD (Xv x (p + k))) (pd_at (pd_var 0 rfl) (pd_var 5 rfl) gi) pd_int rfl) (pd_at (d := nD (Xv x p)) (pd_at (pd_var 0 rfl) (pd_var 2 rfl) gp) pd_int rfl)) pad_nil) (part1_ok _)) ?_ sc.nd)
    refine sds_cons (sd_append (d := qd (candA x h p (p + k))) 4 rfl (pd_call Fminus (hr.mono (by decide)) dfl_nil (pad_cons (pd_at (d := qd (Wv x (p + k))) (pd_at (pd_var 0 rfl) (pd_var 5 rfl) gi) pd_int rfl) (pad_cons (pd_call (r := qd (h * (((Xv x (p + k) : Int) - (Xv x p : Int) : Int) : Rat))) Ftimes (hr.mono (by decide)) dfl_nil (pad_cons (pd_var 1 rfl) (pad_cons (pd_var 6 rfl) pad_nil)) ⟨_, _, rfl, sh, oka.ar, rfl⟩) pad_nil)) ⟨_, _, rfl, oka.wi, oka.th, rfl⟩) rfl (by rw [List.length_map]; omega) ?_)
    refine sds_one (sd_for (fun j ρ => ∃ e7 e8, ρ = [.d (pointsD x), .d (qd h), .d (nD p), .d (.bl up), .own l (.lst ((bentTo x h p k ++ candA x h p (p + k) :: (List.range j).map (candB x p (p + k))).map qd)), .d (nD (p + k)), .d (qd (((Xv x (p + k) : Int) - (Xv x p : Int) : Int) : Rat)), e7, e8]) (src_range1 T.range (pd_var 2 rfl) (by omega)) ⟨e7, e8, ?_⟩ (fun j d ρ hd hI => ?_) (fun ρ hI => ?_))
    · rw [List.map_append]; rfl
    · obtain ⟨e7, e8, rfl⟩ := hI
      have hj : j < p := by have := (List.getElem?_eq_some_iff.mp hd).1; rw [rgFrom_len] at this; omega
      rw [rgFrom_get (by omega)] at hd
      cases hd
      rw [Int.zero_add]
      have gj := pt_at hx (k := j) (by omega)
      have okb := cand_b (p := p) (i := p + k) (j := j) hs hx (by omega) hk
      refine ⟨_, _, (gd_name 7 sc.nd), ?_⟩
      refine sds_cons (sd_asg (d := qd ((Wv x (p + k) - Wv x j) / (((Xv x (p + k) : Int) - (Xv x j : Int) : Int) : Rat))) 8 (pd_call Fover (hr.mono (by decide)) dfl_nil (pad_cons (pd_call (r := qd (Wv x (p + k) - Wv x j)) Fminus (hr.mono (by decide)) dfl_nil (pad_cons (pd_at (d := qd (Wv x (p + k))) (pd_at (pd_var 0 rfl) (pd_var 5 rfl) gi) pd_int rfl) (pad_cons (pd_at (d := qd (Wv x j)) (pd_at (pd_var 0 rfl) (pd_var 7 rfl) gj) pd_int rfl) pad_nil)) ⟨_, _, rfl, oka.wi, okb.wj, rfl⟩) (pad_cons (pd_call (r := qd (((Xv x (p + k) : Int) - (Xv x j : Int) : Int) : Rat)) Fpart (hr.mono (by decide)) dfl_one (pad_cons (pd_sub (pd_at (d := nD (Xv x (p + k))) (pd_at (pd_var 0 rfl) (pd_var 5 rfl) gi) pd_int rfl) (pd_at (d := nD (Xv x j)) (pd_at (pd_var 0 rfl) (pd_var 7 rfl) gj) pd_int rfl)) pad_nil) (part1_ok _)) pad_nil)) ⟨_, _, rfl, okb.dw, okb.dx, okb.dx0, okb.dxs, rfl⟩) ?_ sc.nd)
      refine sds_one (sd_append (d := qd (candB x p (p + k) j)) 4 rfl (pd_call Fminus (hr.mono (by decide)) dfl_nil (pad_cons (pd_at (d := qd (Wv x (p + k))) (pd_at (pd_var 0 rfl) (pd_var 5 rfl) gi) pd_int rfl) (pad_cons (pd_call (r := qd ((Wv x (p + k) - Wv x j) / (((Xv x (p + k) : Int) - (Xv x j : Int) : Int) : Rat) * (((Xv x (p + k) : Int) - (Xv x p : Int) : Int) : Rat))) Ftimes (hr.mono (by decide)) dfl_nil (pad_cons (pd_var 8 rfl) (pad_cons (pd_var 6 rfl) pad_nil)) ⟨_, _, rfl, okb.rise, oka.ar, rfl⟩) pad_nil)) ⟨_, _, rfl, oka.wi, okb.up, rfl⟩) rfl ?_ ⟨E.d (nD j), E.d (qd ((Wv x (p + k) - Wv x j) / (((Xv x (p + k) : Int) - (Xv x j : Int) : Int) : Rat))), ?_⟩)
      · rw [List.length_map, List.length_append, List.length_cons, List.length_map, List.length_range]; omega
      · have e : bentTo x h p k ++ candA x h p (p + k) :: (List.range (j + 1)).map (candB x p (p + k)) = (bentTo x h p k ++ candA x h p (p + k) :: (List.range j).map (candB x p (p + k))) ++ [candB x p (p + k) j] := by rw [List.range_succ, List.map_append]; simp
        rw [e, List.map_append (l₂ := [candB x p (p + k) j])]; rfl
    · obtain ⟨e7, e8, rfl⟩ := hI
      rw [rgFrom_len]
      refine ⟨E.d (nD (p + k)), E.d (qd (((Xv x (p + k) : Int) - (Xv x p : Int) : Int) : Rat)), e7, e8, ?_⟩
      rw [bentTo_succ]; rfl
  · obtain ⟨e5, e6, e7, e8, rfl⟩ := hI
    rw [rgFrom_len]
    have hbl : bentTo x h p (((x.ar.length + 1 : Nat) : Int) - (p : Nat)).toNat = bentL x h p := by
      unfold bentL
      congr 1
      omega
    rw [hbl]
    have hsm : ∀ q ∈ bentL x h p, Sm q := fun q hq => sm_of_sz (bent_sm hs hx hh sh q hq)
    refine sds_one (sd_ret (pd_ifexp (d := qd (bentV x h p up)) (PD.t (pd_var 3 rfl)) (fun hc => PD.is (pd_call Fgreatest (hr.mono (by decide)) dfl_nil (pad_cons (PD.is (pd_frz (o := .lst ((bentL x h p).map qd)) 4 rfl) rfl) pad_nil) ⟨_, rfl, bentL_ne hp, hsm, rfl⟩) ?_) (fun hc => PD.is (pd_call Fleast (hr.mono (by decide)) dfl_nil (pad_cons (PD.is (pd_frz (o := .lst ((bentL x h p).map qd)) 4 rfl) rfl) pad_nil) ⟨_, rfl, bentL_ne hp, hsm, rfl⟩) ?_)) rfl)
    · have hu : up = true := hc
      unfold bentV; rw [if_pos hu]
    · have hu : up = false := hc
      unfold bentV; rw [hu]; rfl
def farD (x : Rw) (h : Rat) (p : Nat) : D := .tup [qd (Wv x x.ar.length - bentV x h p true), qd (Wv x x.ar.length - bentV x h p false)]
def RFar (K : PySem.W.Frag) (ds : List D) (r : D) : Prop := ∃ c h p, ds = [coastD K c, nD p] ∧ CoOk c ∧ RowSz c.r ∧ c.lf = some h ∧ c.rt = none ∧ p ≤ c.r.ar.length ∧ r = farD c.r h p
abbrev C_far_bounds (P : Program) (w : World) (K : PySem.W.Frag) (mg : Str → Option Value) (base : Heap) : Prop := Fn P w K mg base "far_bounds" ["coast", "place"] 6 (SpP ⟨P, w, K⟩ (RFar K)) []
theorem sc_far_bounds : FnScope ["coast", "place", "points", "whole", "low", "high"] ["coast", "place"] (defScope s_far_bounds) := ⟨rfl, rfl, rfl, by decide +kernel, rfl, by decide +kernel, by decide +kernel⟩
theorem fn_far_bounds (T : Tx K mg) (F : Dfn K mg "far_bounds" s_far_bounds []) (Fcheck_coast : C_check_coast P w K mg base) (Fis_whole : C_is_whole P w K mg base) (Mlen : M_len P w K mg base) (Msums : M_sums P w K mg base) (Fsea_line : C_sea_line P w K mg base) (Fbent : C_bent P w K mg base) (Fminus : C_minus P w K mg base) : C_far_bounds P w K mg base := by
  have sc := sc_far_bounds
  refine F.fn (fun _ _ _ _ _ _ us hl => match us, hl with | [_, _], _ => rfl) fun f fd F => ?_
  refine fn_pure F sc (by rintro ds r ⟨_, _, _, rfl, _⟩; rfl) (by decide) fun cdv A outer s H ds r hr hR => ?_
  obtain ⟨c, h, p, rfl, hc, hs, hlf, hrt, hp, rfl⟩ := hR
  have hx := hc.ok
  have hh := (hc.l h hlf).2
  have sh := sm_ht hh
  have h7 := hc.n7
  have el : optD c.lf = qd h := by rw [hlf]; rfl
  have er : optD c.rt = .non := by rw [hrt]; rfl
  refine sds_cons (sd_expr (pd_call (r := .non) Fcheck_coast (hr.mono (by decide)) dfl_nil (pad_cons (pd_var 0 rfl) pad_nil) ⟨c, rfl, rfl⟩) ?_)
  refine sds_cons (sd_ifF (v := false || !true) (pt_or2 (PTD.is (pt_isN (pd_fld (d := optD c.lf) (pd_var 0 rfl) T.clCoast T.noCoast_left rfl)) (by rw [el]; rfl)) (fun _ => (PTD.is (pt_notN (pd_fld (d := optD c.rt) (pd_var 0 rfl) T.clCoast T.noCoast_right rfl)) (by rw [er]; rfl)))) rfl (sds_nil ?_))
  refine sds_cons (sd_ifF (v := false) (PTD.is (pt_or2 (pt_not (PD.t (pd_call Fis_whole (hr.mono (by decide)) dfl_nil (pad_cons (pd_var 1 rfl) pad_nil) isWhole_int))) (fun _ => (pt_not (pt_lele pd_int (pd_var 1 rfl) (pd_lenC (i := (c.r.ar.length : Nat)) Mlen T.len (hr.mono (by decide)) (pd_fld (d := rowD K c.r) (pd_var 0 rfl) T.clCoast T.noCoast_row rfl) ⟨c.r, rfl, rfl⟩ (by omega)))))) ?_) rfl (sds_nil ?_))
  · have e1 : (0 : Int) ≤ (p : Nat) := by omega
    have e2 : ((p : Nat) : Int) ≤ (c.r.ar.length : Nat) := by omega
    simp only [e1, e2, decide_true, Bool.and_self, Bool.not_true, Bool.or_self]
  have glast : atD (.lst ((psums c.r.vo).map qd)) (-1) = some (qd (Wv c.r c.r.ar.length)) := atD_lst (atI_map (atI_last (by rw [← hx.len]; exact psums_last c.r.vo c.r.vo.length)))
  refine sds_cons (sd_par (d1 := pointsD c.r) (d2 := qd (Wv c.r c.r.ar.length)) 2 3 (pad_cons (pd_call Fsea_line (hr.mono (by decide)) dfl_nil (pad_cons (pd_var 0 rfl) pad_nil) ⟨c, rfl, hx, hs, rfl⟩) (pad_cons (pd_at (pd_meth0 (r := .lst ((psums c.r.vo).map qd)) Msums (hr.mono (by decide)) dfl_nil (pd_fld (d := rowD K c.r) (pd_var 0 rfl) T.clCoast T.noCoast_row rfl) rfl ⟨c.r, rfl, by rw [hx.len]; omega, hs.q, hs.sums hx, rfl⟩) (pd_neg pd_int) glast) pad_nil)) ?_ sc.nd)
  refine sds_cons (sd_asg (d := qd (bentV c.r h p false)) 4 (pd_call Fbent (hr.mono (by decide)) dfl_nil (pad_cons (pd_var 2 rfl) (pad_cons (PD.is (pd_fld (d := optD c.lf) (pd_var 0 rfl) T.clCoast T.noCoast_left rfl) el) (pad_cons (pd_var 1 rfl) (pad_cons pd_bl pad_nil)))) ⟨c.r, h, p, false, rfl, hx, hs, hh, hp, rfl⟩) ?_ sc.nd)
  refine sds_cons (sd_asg (d := qd (bentV c.r h p true)) 5 (pd_call Fbent (hr.mono (by decide)) dfl_nil (pad_cons (pd_var 2 rfl) (pad_cons (PD.is (pd_fld (d := optD c.lf) (pd_var 0 rfl) T.clCoast T.noCoast_left rfl) el) (pad_cons (pd_var 1 rfl) (pad_cons pd_bl pad_nil)))) ⟨c.r, h, p, true, rfl, hx, hs, hh, hp, rfl⟩) ?_ sc.nd)
  have sw : Sm (Wv c.r c.r.ar.length) := (hs.w hx _).mono (by decide) (by decide)
  have sb : ∀ up, Sm (bentV c.r h p up) := fun up => sm_of_sz (bentV_sz hs hx hh sh hp)
  exact sds_one (sd_ret (pd_tup (pad_cons (pd_call (r := qd (Wv c.r c.r.ar.length - bentV c.r h p true)) Fminus (hr.mono (by decide)) dfl_nil (pad_cons (pd_var 3 rfl) (pad_cons (pd_var 5 rfl) pad_nil)) ⟨_, _, rfl, sw, sb true, rfl⟩) (pad_cons (pd_call (r := qd (Wv c.r c.r.ar.length - bentV c.r h p false)) Fminus (hr.mono (by decide)) dfl_nil (pad_cons (pd_var 3 rfl) (pad_cons (pd_var 4 rfl) pad_nil)) ⟨_, _, rfl, sw, sb false, rfl⟩) pad_nil)) (lenOk rfl)) rfl)
end
end WL
set_option Elab.async false
set_option linter.all false
set_option maxRecDepth 100000
set_option maxHeartbeats 800000
set_option exponentiation.threshold 500
namespace WL
open PySem PySem.Spec PyProof.Rows L2
/-! the numbers of a cycle are small enough -/
def eK (ar : List Nat) (n k : Nat) : Nat := if k = 0 then 1 else if k = n then 1 else ar.getD (k - 1) 0 + ar.getD k 0
def dO (ar : List Nat) (n D : Nat) (o : List Nat) : Nat := o.foldl (fun d k => d * eK ar n k) D
theorem eK_le {c : Cst} {k : Nat} (hc : CoOk c) (hk : InC c k) : 0 < eK c.r.ar c.r.ar.length k ∧ eK c.r.ar c.r.ar.length k ≤ 8 := by
  have hp := hc.ok.pos
  unfold eK
  by_cases k0 : k = 0
  · rw [if_pos k0]; omega
  · rw [if_neg k0]
    by_cases kn : k = c.r.ar.length
    · rw [if_pos kn]; omega
    · rw [if_neg kn]
      have hlt : k < c.r.ar.length := by
        rcases hk with z | z | z
        · exact absurd z.1 k0
        · exact absurd z.1 kn
        · exact z.2
      have m1 := hc.a4 _ (getD_mem (xs := c.r.ar) (i := k - 1) (d := 0) (by omega))
      have m2 := hc.a4 _ (getD_mem (xs := c.r.ar) (i := k) (d := 0) (by omega))
      have n1 := (hc.ok.ar _ (getD_mem (xs := c.r.ar) (i := k - 1) (d := 0) (by omega))).1
      omega
theorem copen_bdE {c : Cst} {k D' M' : Nat} (hc : CoOk c) (hk : InC c k) (d0 : 0 < D') (dv : 2 ∣ D') (m32 : 32 ≤ M') (hb : ∀ q ∈ c.r.vo, Bd D' M' q) : ∀ q ∈ copenV c k, Bd (D' * eK c.r.ar c.r.ar.length k) (M' * 6) q := by
  have hl := hc.ok.len
  have hp := hc.ok.pos
  have setok : ∀ (i : Nat) (v : Rat), Bd 2 32 v → ∀ q ∈ c.r.vo.set i v, Bd (D' * 1) (M' * 6) q := fun i v vb q hq => by
    rw [Nat.mul_one]
    obtain ⟨e, he⟩ := dv
    rcases mem_set hq with z | z
    · exact (hb q z).mono (by omega)
    · rw [z, he]
      exact (vb.wide (E := e)).mono (by omega)
  unfold eK
  by_cases k0 : k = 0
  · subst k0
    have hsome : c.lf.isSome = true := by
      rcases hk with z | z | z
      · exact z.2
      · omega
      · omega
    have ha := hc.a4 _ (getD_mem (xs := c.r.ar) (i := 0) (d := 0) (by omega))
    obtain ⟨p1, p2, _, _⟩ := ht_prod hc.l hsome ha
    have e : copenV c 0 = c.r.vo.set 0 (c.lf.getD 0 * ((c.r.ar.getD 0 0 : Nat) : Rat)) := by unfold copenV; rw [if_pos rfl]
    rw [e, if_pos rfl]
    exact setok _ _ p2
  · rw [if_neg k0]
    by_cases kn : k = c.r.ar.length
    · have hsome : c.rt.isSome = true := by
        rcases hk with z | z | z
        · exact absurd z.1 k0
        · exact z.2
        · omega
      have ha := hc.a4 _ (getD_mem (xs := c.r.ar) (i := c.r.ar.length - 1) (d := 0) (by omega))
      obtain ⟨p1, p2, _, _⟩ := ht_prod hc.r hsome ha
      have e : copenV c k = c.r.vo.set (c.r.ar.length - 1) (c.rt.getD 0 * ((c.r.ar.getD (c.r.ar.length - 1) 0 : Nat) : Rat)) := by unfold copenV; rw [if_neg k0, if_pos kn]
      rw [e, if_pos kn]
      exact setok _ _ p2
    · have k1 : 1 ≤ k ∧ k < c.r.ar.length := by
        rcases hk with z | z | z
        · exact absurd z.1 k0
        · exact absurd z.1 kn
        · exact z
      have e : copenV c k = openV c.r.ar c.r.vo k 1 := by unfold copenV; rw [if_neg k0, if_neg kn]
      have n1 := (hc.ok.ar _ (getD_mem (xs := c.r.ar) (i := k - 1) (d := 0) (by omega))).1
      have v1 := hb _ (getD_mem (xs := c.r.vo) (i := k - 1) (d := 0) (by omega))
      have v2 := hb _ (getD_mem (xs := c.r.vo) (i := k) (d := 0) (by omega))
      have bp := frac_bd (a := c.r.ar.getD (k - 1) 0) (b := c.r.ar.getD k 0) (by omega)
      rw [e, if_neg kn]
      have b1 := v1.add v2
      have b2 := b1.mul bp
      rw [Nat.mul_one] at b2
      have b3 := b2.sub (v1.wide (E := c.r.ar.getD (k - 1) 0 + c.r.ar.getD k 0))
      have b4 := b3.mul bd_one
      rw [Nat.mul_one, Nat.mul_one] at b4
      have b5 := (v1.wide (E := c.r.ar.getD (k - 1) 0 + c.r.ar.getD k 0)).add b4
      have b6 := (b1.wide (E := c.r.ar.getD (k - 1) 0 + c.r.ar.getD k 0)).sub b5
      exact openV_mem (S := fun q => Bd (D' * (c.r.ar.getD (k - 1) 0 + c.r.ar.getD k 0)) (M' * 6) q) (fun q hq => ((hb q hq).wide (E := c.r.ar.getD (k - 1) 0 + c.r.ar.getD k 0)).mono (by omega)) (b5.mono (by omega)) (b6.mono (by omega))
theorem after_bdE {c : Cst} {o : List Nat} {D0 M0 D M : Nat} (h : AftOk c o D0 M0) (d0 : 0 < D) (dv : 2 ∣ D) (m32 : 32 ≤ M) (hb : ∀ q ∈ c.r.vo, Bd D M q) : ∀ k, k ≤ o.length → 0 < dO c.r.ar c.r.ar.length D (o.take k) ∧ 2 ∣ dO c.r.ar c.r.ar.length D (o.take k) ∧ ∀ q ∈ (afterC c (o.take k)).r.vo, Bd (dO c.r.ar c.r.ar.length D (o.take k)) (M * 6 ^ k) q
  | 0, _ => by rw [List.take_zero]; exact ⟨d0, dv, fun q hq => by have := hb q hq; show Bd D (M * 6 ^ 0) q; rw [Nat.pow_zero, Nat.mul_one]; exact this⟩
  | k + 1, hk => by
    obtain ⟨i1, i2, i3⟩ := after_bdE h d0 dv m32 hb k (by omega)
    have e := List.getElem?_eq_getElem (show k < o.length by omega)
    have hv : afterC c (o.take (k + 1)) = copen (afterC c (o.take k)) o[k] := foldl_take_succ _ _ e
    have hd : dO c.r.ar c.r.ar.length D (o.take (k + 1)) = dO c.r.ar c.r.ar.length D (o.take k) * eK c.r.ar c.r.ar.length o[k] := foldl_take_succ _ _ e
    have ok := (aft_step h k (by omega)).1
    have hin : InC (afterC c (o.take k)) o[k] := inC_after (h.w _ (List.getElem_mem _))
    have ea := (after_same (o.take k) c).1
    obtain ⟨e0, _⟩ := eK_le ok hin
    have := copen_bdE ok hin i1 i2 (Nat.le_trans m32 (Nat.le_mul_of_pos_right _ (Nat.pow_pos (by decide)))) i3
    rw [ea] at this e0
    rw [hv, hd, Nat.pow_succ, ← Nat.mul_assoc]
    exact ⟨Nat.mul_pos i1 e0, Nat.dvd_trans i2 (Nat.dvd_mul_right _ _), this⟩
theorem dO_le {c : Cst} {D : Nat} (hc : CoOk c) : ∀ (o : List Nat), (∀ k ∈ o, InC c k) → ∀ D, dO c.r.ar c.r.ar.length D o ≤ D * 8 ^ o.length
  | [], _, D => by simp [dO]
  | k :: o, ho, D => by
    have ih := dO_le (D := D) hc o (fun j hj => ho j (List.mem_cons_of_mem _ hj)) (D * eK c.r.ar c.r.ar.length k)
    have := (eK_le hc (ho k (by simp))).2
    show dO c.r.ar c.r.ar.length (D * eK c.r.ar c.r.ar.length k) o ≤ D * 8 ^ (o.length + 1)
    refine Nat.le_trans ih ?_
    rw [Nat.pow_succ, Nat.mul_assoc, Nat.mul_comm (8 ^ o.length) 8]
    exact Nat.mul_le_mul_left _ (Nat.mul_le_mul_right _ this)
theorem wash_dO {n : Nat} {ar : List Nat} {c : Cst} {ex : List Nat} (h : Wash n ar c ex) : dO c.r.ar c.r.ar.length 2 (washO n ex) ≤ 2 ^ 31 := by
  have hn := h.n7
  have he := h.e3
  have n0 := h.shp.n0
  have e : washO n ex = 0 :: ((List.range n).map Nat.succ ++ ex) := by unfold washO; rw [List.range_succ_eq_map]; rfl
  have hin : ∀ k ∈ (List.range n).map Nat.succ ++ ex, InC c k := fun k hk => h.inC (h.le k (by rw [e]; exact List.mem_cons_of_mem _ hk))
  rw [e]
  have e1 : dO c.r.ar c.r.ar.length 2 (0 :: ((List.range n).map Nat.succ ++ ex)) = dO c.r.ar c.r.ar.length 2 ((List.range n).map Nat.succ ++ ex) := rfl
  rw [e1]
  refine Nat.le_trans (dO_le (D := 2) h.ok _ hin 2) ?_
  have l : ((List.range n).map Nat.succ ++ ex).length ≤ 10 := by simp; omega
  exact Nat.le_trans (Nat.mul_le_mul_left 2 (Nat.pow_le_pow_right (by decide) l)) (by decide)
theorem wash_len11 {n : Nat} {ar : List Nat} {c : Cst} {ex : List Nat} (h : Wash n ar c ex) : (washO n ex).length ≤ 11 := by rw [wash_len]; have := h.n7; have := h.e3; omega
theorem two_exp : (2 : Nat) ∣ 2 := ⟨1, rfl⟩
/-- the common denominator of a round's numbers -/
theorem wash_bd {n : Nat} {ar : List Nat} {c : Cst} {ex : List Nat} (h : Wash n ar c ex) : ∃ D, 0 < D ∧ D ≤ 2 ^ 31 ∧ (∀ q ∈ noneV c (washO n ex), Bd D (2 ^ 34) q) ∧ ∀ b, ∀ q ∈ lateV c (washO n ex) b, Bd D (2 ^ 34) q := by
  have hl := wash_len11 h
  have pw : 32 * 6 ^ (washO n ex).length ≤ 2 ^ 34 := Nat.le_trans (Nat.mul_le_mul_left 32 (Nat.pow_le_pow_right (by decide) hl)) (by decide)
  have key : ∀ v : List Rat, (∀ q ∈ v, Bd 2 32 q) → AftOk (withV c v) (washO n ex) 2 32 → ∀ q ∈ (afterC (withV c v) (washO n ex)).r.vo, Bd (dO c.r.ar c.r.ar.length 2 (washO n ex)) (2 ^ 34) q := fun v hv ha q hq => by
    have := (after_bdE (D := 2) (M := 32) ha (by decide) two_exp (by decide) hv (washO n ex).length (Nat.le_refl _)).2.2
    rw [List.take_length] at this
    exact (this q hq).mono pw
  have b0 : ∀ (i : Int), i.natAbs ≤ 32 → Bd 2 32 (i : Rat) := fun i hi => by
    have := (bd_int (i := i) (M := 32) hi).wide (E := 2)
    rwa [Nat.one_mul] at this
  have hz := (after_bdE (D := 2) (M := 32) (h.ord.none) (by decide) two_exp (by decide) (fun q hq => by
    have := List.eq_of_mem_replicate hq
    rw [this]; exact b0 0 (by decide)) (washO n ex).length (Nat.le_refl _)).1
  rw [List.take_length] at hz
  refine ⟨dO c.r.ar c.r.ar.length 2 (washO n ex), hz, wash_dO h, fun q hq => ?_, fun b q hq => ?_⟩
  · refine key _ (fun q hq => ?_) h.ord.none q hq
    have := List.eq_of_mem_replicate hq
    rw [this]; exact b0 0 (by decide)
  · refine key _ (fun q hq => ?_) (h.ord.unit b) q hq
    unfold unitV at hq
    obtain ⟨i, _, rfl⟩ := List.mem_map.mp hq
    split
    · exact b0 1 (by decide)
    · exact b0 0 (by decide)
theorem col_bd {n : Nat} {ar : List Nat} {c : Cst} {ex : List Nat} (h : Wash n ar c ex) : ∃ D, 0 < D ∧ D ≤ 2 ^ 31 ∧ (∀ q ∈ noneV c (washO n ex), Bd D (2 ^ 34) q) ∧ ∀ b, ∀ q ∈ colV c (washO n ex) b, Bd D (2 ^ 35) q := by
  obtain ⟨D, d0, d1, h1, h2⟩ := wash_bd h
  refine ⟨D, d0, d1, h1, fun b q hq => ?_⟩
  unfold colV at hq
  obtain ⟨j, hj⟩ := List.mem_iff_getElem?.mp hq
  rw [List.getElem?_zipWith] at hj
  cases ea : (lateV c (washO n ex) b)[j]? with
  | none => rw [ea] at hj; simp at hj
  | some x =>
    cases eb : (noneV c (washO n ex))[j]? with
    | none => rw [ea, eb] at hj; simp at hj
    | some y =>
      rw [ea, eb] at hj
      have hj : x - y = q := by simpa using hj
      rw [← hj]
      exact ((h2 b x (List.mem_of_getElem? ea)).sub (h1 y (List.mem_of_getElem? eb))).mono (by decide)
theorem cyc_sz {n : Nat} {ar : List Nat} {c : Cst} {ex : List Nat} (h : Wash n ar c ex) : ∃ D, D ≤ 2 ^ 31 ∧ SzM (cycM c (washO n ex)) D (2 ^ 64) := by
  obtain ⟨D, d0, d1, h1, h2⟩ := col_bd h
  have e : c.r.ar.length = n := by rw [h.shp.ea, h.shp.en]
  refine ⟨D, d1, d0, by decide, fun r hr q hq => ?_⟩
  unfold cycM at hr
  obtain ⟨i, hi, rfl⟩ := List.mem_map.mp hr
  have hi := List.mem_range.mp hi
  unfold cycRow at hq
  rcases List.mem_append.mp hq with z | z
  · obtain ⟨j, hj, rfl⟩ := List.mem_map.mp z
    have b1 : ∀ (i : Int), i.natAbs ≤ 1 → Bd D 1 (i : Rat) := fun i hi => by
      have := (bd_int (i := i) (M := 1) hi).wide (E := D)
      rwa [Nat.one_mul] at this
    have b2 := h2 j _ (getD_mem (xs := colV c (washO n ex) j) (i := i) (d := 0) (by rw [colV_len h.ord]; exact hi))
    split
    · exact ((b1 1 (by decide)).sub b2).mono (by decide)
    · exact ((b1 0 (by decide)).sub b2).mono (by decide)
  · rw [List.mem_singleton.mp z]
    exact (h1 _ (getD_mem (xs := noneV c (washO n ex)) (i := i) (d := 0) (by rw [noneV_len h.ord]; exact hi))).mono (by decide)
theorem pow_mul_le {a b x y : Nat} (h : a ≤ 2 ^ x) (k : b ≤ 2 ^ y) : a * b ≤ 2 ^ (x + y) := by rw [Nat.pow_add]; exact Nat.mul_le_mul h k
theorem cyc_szN {n : Nat} {ar : List Nat} {c : Cst} {ex : List Nat} (h : Wash n ar c ex) : ∀ k, k ≤ n → ∃ D M, D ≤ 2 ^ (31 * 2 ^ k) ∧ M ≤ 2 ^ (64 * 3 ^ k) ∧ SzM (elimN (cycM c (washO n ex)) k) D M
  | 0, _ => by
    obtain ⟨D, d1, hs⟩ := cyc_sz h
    exact ⟨D, 2 ^ 64, d1, Nat.le_refl _, hs⟩
  | k + 1, hk => by
    obtain ⟨D, M, hD, hM, hs⟩ := cyc_szN h k (by omega)
    have mm := h.mm.all (uF_pos h.shp) k (by omega)
    obtain ⟨D', hD', hs'⟩ := hs.step mm.wide (show k < n by omega) (mm.pivot (uF_pos h.shp) (by omega)) (mm.dg k (by omega) (Nat.le_refl _))
    refine ⟨D', _, Nat.le_trans hD' (Nat.le_trans (pow_mul_le hD hD) (Nat.pow_le_pow_right (by decide) ?_)), Nat.le_trans (pow_mul_le (a := 2) (x := 1) (by decide) (pow_mul_le (pow_mul_le hM hM) hD)) (Nat.pow_le_pow_right (by decide) ?_), by rw [elimN_succ]; exact hs'⟩
    · rw [Nat.pow_succ]; omega
    · have : 2 ^ k ≤ 3 ^ k := Nat.pow_le_pow_left (by decide) k
      have : 0 < 3 ^ k := Nat.pow_pos (by decide)
      rw [Nat.pow_succ]; omega
theorem lt_pow {a x y : Nat} (h : a ≤ 2 ^ x) (k : x < y) : a < 2 ^ y := Nat.lt_of_le_of_lt h (Nat.pow_lt_pow_right (by decide) k)
theorem Wash.turn {n : Nat} {ar : List Nat} {c : Cst} {ex : List Nat} (h : Wash n ar c ex) {k : Nat} (hk : k < n) : TurnOk (elimN (cycM c (washO n ex)) k) k := by
  obtain ⟨D, M, hD, hM, hs⟩ := cyc_szN h k (by omega)
  have mm := h.mm.all (uF_pos h.shp) k (by omega)
  have n7 := h.n7
  have p2 : 2 ^ k ≤ 2 ^ 6 := Nat.pow_le_pow_right (by decide) (by omega)
  have p3 : 3 ^ k ≤ 3 ^ 6 := Nat.pow_le_pow_right (by decide) (by omega)
  have p2' : (2 : Nat) ^ 6 = 64 := by decide
  have p3' : (3 : Nat) ^ 6 = 729 := by decide
  have hD2 : D ≤ 2 ^ 1984 := Nat.le_trans hD (Nat.pow_le_pow_right (by decide) (by omega))
  have hM2 : M ≤ 2 ^ 46656 := Nat.le_trans hM (Nat.pow_le_pow_right (by decide) (by omega))
  have dd := pow_mul_le hD2 hD2
  have mmd := pow_mul_le (pow_mul_le hM2 hM2) hD2
  have sum : M + M * M * D ≤ 2 ^ 95297 := by
    have a : M ≤ 2 ^ 95296 := Nat.le_trans hM2 (Nat.pow_le_pow_right (by decide) (by decide))
    have b : M * M * D ≤ 2 ^ 95296 := Nat.le_trans mmd (Nat.pow_le_pow_right (by decide) (by decide))
    have e : (2 : Nat) ^ 95297 = 2 ^ 95296 + 2 ^ 95296 := by rw [Nat.pow_succ (n := 2) (m := 95296)]; omega
    rw [e]; exact Nat.add_le_add a b
  exact ⟨mm.pivot (uF_pos h.shp) hk, mm.dg k hk (Nat.le_refl _), D, M, hs.d0, lt_pow dd (by decide), lt_pow (pow_mul_le sum dd) (by decide), hs.m1, hs.bd⟩
theorem Wash.cyc {n : Nat} {ar : List Nat} {c : Cst} {ex : List Nat} (h : Wash n ar c ex) : CycOk c (washO n ex) := by
  have e : c.r.ar.length = n := by rw [h.shp.ea, h.shp.en]
  have n7 := h.n7
  obtain ⟨lx, nx, _⟩ := h.x
  refine ⟨h.ord, fun k hk => ?_, fun k hk => h.turn (by omega), fun k hk q hq => ?_, ?_⟩
  · unfold washO
    exact List.mem_append_left _ (List.mem_range.mpr (by omega))
  · obtain ⟨D, d0, d1, _, h2⟩ := col_bd h
    exact (h2 k q hq).sm d0 (lt_pow d1 (by decide)) (lt_pow (pow_mul_le (Nat.le_refl (2 ^ 35)) d1) (by decide))
  · obtain ⟨D, M, hD, hM, hs⟩ := cyc_szN h n (Nat.le_refl _)
    have p2 : 2 ^ n ≤ 2 ^ 7 := Nat.pow_le_pow_right (by decide) n7
    have p3 : 3 ^ n ≤ 3 ^ 7 := Nat.pow_le_pow_right (by decide) n7
    have p2' : (2 : Nat) ^ 7 = 128 := by decide
    have p3' : (3 : Nat) ^ 7 = 2187 := by decide
    have hD2 : D ≤ 2 ^ 3968 := Nat.le_trans hD (Nat.pow_le_pow_right (by decide) (by omega))
    have hM2 : M ≤ 2 ^ 139968 := Nat.le_trans hM (Nat.pow_le_pow_right (by decide) (by omega))
    have hb : ∀ q ∈ cycX c (washO n ex), Bd (2 * D) (M + 32) q := fun q hq => by
      obtain ⟨i, hi⟩ := List.mem_iff_getElem?.mp hq
      have hin : i < n := by have := (List.getElem?_eq_some_iff.mp hi).1; omega
      have mm := h.mm.all (uF_pos h.shp) n (Nat.le_refl _)
      have l := last_entry mm.wide hin
      have ex' : cycX c (washO n ex) = lastCol (elimN (cycM c (washO n ex)) n) := by unfold cycX; rw [e]
      rw [← ex'] at l
      have e2 : gt (cycX c (washO n ex)) i = q := by show (cycX c (washO n ex)).getD i 0 = q; rw [List.getD_eq_getElem?_getD, hi]; rfl
      rw [← e2, l, Nat.mul_comm]
      obtain ⟨e3, e4⟩ := entry_mem mm.wide hin (Nat.le_refl n)
      exact ((hs.bd _ e4 _ e3).wide).mono (by omega)
    have d0 := hs.d0
    have D2 : 2 * D ≤ 2 ^ 3969 := by have := pow_mul_le (show 2 ≤ 2 ^ 1 by decide) hD2; exact Nat.le_trans this (Nat.pow_le_pow_right (by decide) (by decide))
    have M2 : M + 32 ≤ 2 ^ 139969 := by
      have e : (2 : Nat) ^ 139969 = 2 ^ 139968 + 2 ^ 139968 := by rw [Nat.pow_succ (n := 2) (m := 139968)]; omega
      rw [e]
      exact Nat.add_le_add hM2 (Nat.le_trans (show 32 ≤ 2 ^ 5 by decide) (Nat.pow_le_pow_right (by decide) (by decide)))
    have dv : 2 ∣ 2 * D := Nat.dvd_mul_right 2 D
    refine ⟨2 * D, M + 32, h.ord.aft (by rw [e]; exact lx) nx ⟨2 * D, M + 32, by omega, dv, Nat.le_refl _, Nat.le_refl _, by omega, hb⟩ (lt_pow D2 (by decide)) (lt_pow M2 (by decide)), by omega, 2 * D, by omega, dv, Nat.le_refl _, hb⟩
end WL
set_option Elab.async false
set_option linter.all false
set_option maxRecDepth 100000
set_option maxHeartbeats 4000000
namespace WL
open PySem PySem.Spec PyProof.Rows L2
/-! the law's draws -/
def cellV (ns : List Int) (i : Nat) : Int := let c := ns.getD (i % ns.length) 0; if (10 : Int) ^ 60 ≤ (if c < 0 then -c else c) then c % 10 ^ 18 else c
def blendV (ns : List Int) (i : Nat) : Int := ((cellV ns i + 977 * (i : Int)) * 48271 + 31 * (ns.length : Int)) % 2147483647
@[irreducible] def numV (ns : List Int) (i : Nat) : Int := if ns = [] then ((i : Int) * 48271 + 12345) % 2147483647 else (blendV ns i * 69621 % 2147483629 * 16807 + (i : Int)) % 2147483587
theorem numV_nn (ns : List Int) (i : Nat) : 0 ≤ numV ns i ∧ numV ns i < 2147483647 := by
  unfold numV
  split
  · exact ⟨Int.emod_nonneg _ (by decide), Int.emod_lt_of_pos _ (by decide)⟩
  · have := Int.emod_lt_of_pos (blendV ns i * 69621 % 2147483629 * 16807 + (i : Int)) (show (0 : Int) < 2147483587 by decide)
    exact ⟨Int.emod_nonneg _ (by decide), by omega⟩
theorem cellV_lt (ns : List Int) (i : Nat) : (cellV ns i).natAbs < 10 ^ 60 := by
  unfold cellV
  generalize ns.getD (i % ns.length) 0 = c
  show (if (10 : Int) ^ 60 ≤ (if c < 0 then -c else c) then c % 10 ^ 18 else c).natAbs < 10 ^ 60
  have e60 : (10 : Int) ^ 60 = ((10 ^ 60 : Nat) : Int) := by norm_cast
  by_cases h : (10 : Int) ^ 60 ≤ (if c < 0 then -c else c)
  · rw [if_pos h]
    have h1 := Int.emod_nonneg c (show (10 : Int) ^ 18 ≠ 0 by decide)
    have h2 := Int.emod_lt_of_pos c (show (0 : Int) < 10 ^ 18 by decide)
    have : (10 : Nat) ^ 18 < 10 ^ 60 := by decide
    have e18 : (10 : Int) ^ 18 = ((10 ^ 18 : Nat) : Int) := by norm_cast
    omega
  · rw [if_neg h]
    rw [e60] at h
    by_cases z : c < 0
    · rw [if_pos z] at h; omega
    · rw [if_neg z] at h; omega
/-- the number drawn below m by the draw behind k of them -/
@[irreducible] def takeV (ns : List Int) (k m : Nat) : Nat := (numV ns (k + 1) % (m : Int)).toNat
theorem takeV_lt (ns : List Int) (k : Nat) {m : Nat} (h : 0 < m) : takeV ns k m < m := by
  unfold takeV
  have h1 := Int.emod_nonneg (numV ns (k + 1)) (show (m : Int) ≠ 0 by omega)
  have h2 := Int.emod_lt_of_pos (numV ns (k + 1)) (show (0 : Int) < m by omega)
  omega
def drawO (ns : List Int) (k : Nat) : O := .lst [.scr ns, nD k]
/-- scripts and counters of a moderate size -/
def DrOk (ns : List Int) (k : Nat) : Prop := ns.length < 2 ^ 40 ∧ k < 2 ^ 20
section
variable {P : Program} {w : World} {K : PySem.W.Frag} {mg : Str → Option Value} {base : Heap}
def RNumber (ds : List D) (r : D) : Prop := ∃ ns i, ds = [.scr ns, nD i] ∧ DrOk ns i ∧ r = .int (numV ns i)
abbrev C__law_number (P : Program) (w : World) (K : PySem.W.Frag) (mg : Str → Option Value) (base : Heap) : Prop := Fn P w K mg base "_law_number" ["_law_script", "_law_index"] 1 (SpP ⟨P, w, K⟩ RNumber) []
theorem sc__law_number : FnScope ["_law_script", "_law_index", "_law_cell", "_law_blend"] ["_law_script", "_law_index"] (defScope s__law_number) := ⟨rfl, rfl, rfl, by decide +kernel, rfl, by decide +kernel, by decide +kernel⟩
theorem mul_small {i j : Int} (a : i.natAbs < 2 ^ 300) (b : j.natAbs < 2 ^ 300) : CMulW i j := mulW_of a b (by decide)
theorem small300 {i : Int} {n : Nat} (h : i.natAbs < n) (hn : n ≤ 2 ^ 300) : i.natAbs < 2 ^ 300 := Nat.lt_of_lt_of_le h hn
theorem fn__law_number (T : Tx K mg) (F : Dfn K mg "_law_number" s__law_number []) : C__law_number P w K mg base := by
  have sc := sc__law_number
  refine F.fn (fun _ _ _ _ _ _ us hl => match us, hl with | [_, _], _ => rfl) fun f fd F => ?_
  refine fn_pure F sc (by rintro ds r ⟨_, _, rfl, _⟩; rfl) (by decide) fun cdv A outer s H ds r hr hR => ?_
  obtain ⟨ns, i, rfl, ⟨hn, hi⟩, rfl⟩ := hR
  have p40 : (2 : Nat) ^ 40 ≤ 2 ^ 300 := Nat.pow_le_pow_right (by decide) (by decide)
  have p20 : (2 : Nat) ^ 20 ≤ 2 ^ 300 := Nat.pow_le_pow_right (by decide) (by decide)
  have p240 : (2 : Nat) ^ 240 ≤ 2 ^ 300 := Nat.pow_le_pow_right (by decide) (by decide)
  have bi : ((i : Nat) : Int).natAbs < 2 ^ 300 := small300 (n := 2 ^ 20) (by omega) p20
  have hq : PyData.eqv (pyOf (.scr ns)) (pyOf (.lst [])) = decide (ns = []) := by
    cases ns with
    | nil => rfl
    | cons a as => rw [decide_eq_false (by simp)]; rfl
  refine sds_cons (sd_if (pt_eqD (x := .scr ns) (y := .lst []) hr.units (pd_var 0 rfl) (PL.lst (pl_lst pad_nil (lenOk rfl))) rfl rfl (shaped_ints ns) (by decide +kernel) hq) (fun hc => ?_) (fun hc => ?_))
  · have he := of_decide_eq_true hc
    refine sds_one (sd_ret (pd_toInt T.int (pd_mod (pd_add (pd_mul (pd_var 1 rfl) pd_int (mul_small bi (small300 (n := 48272) (by decide) (Nat.le_trans (show 48272 ≤ 2 ^ 20 by decide) p20)))) pd_int) pd_int (by decide))) ?_)
    unfold numV
    rw [if_pos he]
  · have he := of_decide_eq_false hc
    refine sds_nil ?_
    have lp : 0 < ns.length := List.length_pos_iff.mpr he
    have g1 : atD (.scr ns) (((i % ns.length : Nat)) : Int) = some (.int (ns.getD (i % ns.length) 0)) := by
      show (atI ns _).map D.int = _
      rw [atI_n (getD_some (d := 0) (Nat.mod_lt i lp))]; rfl
    refine sds_cons (sd_asg (d := .int (ns.getD (i % ns.length) 0)) 2 (pd_at (pd_var 0 rfl) (PD.is (pd_mod (pd_var 1 rfl) (pd_len (i := (ns.length : Nat)) T.len (pd_var 0 rfl) rfl) (by omega)) (by rw [← Int.natCast_emod])) g1) ?_ sc.nd)
    have hcell := cellV_lt ns i
    have key : ∀ ρ : List E, ρ = [.d (.scr ns), .d (nD i), .d (.int (cellV ns i)), .no] → SDs (cxOf CX0 P w K mg base ["_law_script", "_law_index", "_law_cell", "_law_blend"] "_law_number" (defScope s__law_number) f cdv A outer s H E0).nox ρ ((defBody s__law_number).drop 3) { nx := fun ρ => D.int (numV ns i) = .non, rt := fun ρ d => d = .int (numV ns i) } := by
      rintro ρ rfl
      have b1 : (cellV ns i).natAbs < 10 ^ 60 := hcell
      have h60 : (10 : Nat) ^ 60 ≤ 2 ^ 200 := by decide
      have b2 : (cellV ns i + 977 * ((i : Nat) : Int)).natAbs < 2 ^ 201 := by
        have e : (2 : Nat) ^ 201 = 2 ^ 200 + 2 ^ 200 := by decide
        have e2 : (977 : Nat) * 2 ^ 20 ≤ 2 ^ 200 := by decide
        omega
      refine sds_cons (sd_asg (d := .int (blendV ns i)) 3 (pd_mod (pd_add (pd_mul (pd_add (pd_var 2 rfl) (pd_mul pd_int (pd_var 1 rfl) (mul_small (small300 (n := 978) (by decide) (Nat.le_trans (show 978 ≤ 2 ^ 20 by decide) p20)) bi))) pd_int (mul_small (small300 b2 (Nat.pow_le_pow_right (by decide) (by decide))) (small300 (n := 48272) (by decide) (Nat.le_trans (show 48272 ≤ 2 ^ 20 by decide) p20)))) (pd_mul pd_int (pd_len (i := (ns.length : Nat)) T.len (pd_var 0 rfl) rfl) (mul_small (small300 (n := 32) (by decide) (Nat.le_trans (show 32 ≤ 2 ^ 20 by decide) p20)) (small300 (n := 2 ^ 40) (by omega) p40)))) pd_int (by decide)) ?_ sc.nd)
      have c1 : 0 ≤ blendV ns i ∧ blendV ns i < 2147483647 := ⟨Int.emod_nonneg _ (by decide), Int.emod_lt_of_pos _ (by decide)⟩
      have c2 : 0 ≤ blendV ns i * 69621 % 2147483629 ∧ blendV ns i * 69621 % 2147483629 < 2147483629 := ⟨Int.emod_nonneg _ (by decide), Int.emod_lt_of_pos _ (by decide)⟩
      have q40 : (2 : Nat) ^ 40 = 1099511627776 := by decide
      refine sds_one (sd_ret (pd_toInt T.int (pd_mod (pd_add (pd_mul (pd_mod (pd_mul (pd_var 3 rfl) pd_int (mul_small (small300 (n := 2 ^ 40) (by omega) p40) (small300 (n := 2 ^ 20) (by decide) p20))) pd_int (by decide)) pd_int (mul_small (small300 (n := 2 ^ 40) (by omega) p40) (small300 (n := 2 ^ 20) (by decide) p20))) (pd_var 1 rfl)) pd_int (by decide))) ?_)
      unfold numV
      rw [if_neg he]
    have cp : CPow 10 60 := ⟨by decide, by decide, by decide⟩
    have cp2 : CPow 10 18 := ⟨by decide, by decide, by decide⟩
    refine sds_cons (sd_if (pt_ge (pd_abs T.abs (pd_var 2 rfl)) (pd_pow pd_int pd_int cp)) (fun hc => ?_) (fun hc => ?_))
    · have h1 := of_decide_eq_true hc
      refine sds_one (sd_asg (d := .int (ns.getD (i % ns.length) 0 % 10 ^ 18)) 2 (pd_mod (pd_var 2 rfl) (pd_pow pd_int pd_int cp2) (by decide)) ?_ sc.nd)
      refine key _ ?_
      have : cellV ns i = ns.getD (i % ns.length) 0 % 10 ^ 18 := by
        unfold cellV
        exact if_pos h1
      rw [this]; rfl
    · have h1 := of_decide_eq_false hc
      refine sds_nil ?_
      refine key _ ?_
      have : cellV ns i = ns.getD (i % ns.length) 0 := by
        unfold cellV
        exact if_neg h1
      rw [this]; rfl
/-! ### take, pick -/
def RTake (o : O) (ds : List D) (o' : O) (r : D) : Prop := ∃ ns k m, o = drawO ns k ∧ ds = [nD m] ∧ 0 < m ∧ DrOk ns (k + 1) ∧ o' = drawO ns (k + 1) ∧ r = nD (takeV ns k m)
abbrev C__law_take (P : Program) (w : World) (K : PySem.W.Frag) (mg : Str → Option Value) (base : Heap) : Prop := Fn P w K mg base "_law_take" ["_law_draw", "_law_many"] 2 (SpO ⟨P, w, K⟩ RTake) []
theorem sc__law_take : FnScope ["_law_draw", "_law_many"] ["_law_draw", "_law_many"] (defScope s__law_take) := ⟨rfl, rfl, rfl, by decide +kernel, rfl, by decide +kernel, by decide +kernel⟩
theorem fn__law_take (T : Tx K mg) (F : Dfn K mg "_law_take" s__law_take []) (Fnumber : C__law_number P w K mg base) : C__law_take P w K mg base := by
  have sc := sc__law_take
  refine F.fn (fun _ _ _ _ _ _ us hl => match us, hl with | [_, _], _ => rfl) fun f fd F => ?_
  refine fn_own F sc (by rintro o ds o' r ⟨_, _, _, _, rfl, _⟩; rfl) (by decide) fun cdv A outer s H l o ds o' r hr hR => ?_
  obtain ⟨ns, k, m, rfl, rfl, hm, hd, rfl, rfl⟩ := hR
  refine sds_cons (sd_augIx (ds := [.scr ns, nD k]) 0 rfl (pd_int (i := 1)) (by decide) (m := 1) rfl rfl pd_int ?_)
  have e1 : ((k : Nat) : Int) + 1 = ((k + 1 : Nat) : Int) := by omega
  rw [e1]
  have hn := numV_nn ns (k + 1)
  refine sds_one (sd_ret (pd_mod (pd_toInt T.int (pd_call Fnumber (hr.mono (by decide)) dfl_nil (pad_cons (pd_atO (ds := [.scr ns, nD (k + 1)]) (d := .scr ns) 0 rfl (pd_int (i := 0)) rfl rfl) (pad_cons (pd_toInt T.int (pd_atO (ds := [.scr ns, nD (k + 1)]) (d := nD (k + 1)) 0 rfl (pd_int (i := 1)) rfl rfl)) pad_nil)) ⟨ns, k + 1, rfl, hd, rfl⟩)) (pd_var 1 rfl) (by omega)) ⟨?_, rfl⟩)
  show D.int (numV ns (k + 1) % (m : Int)) = D.int ((takeV ns k m : Nat) : Int)
  unfold takeV
  rw [Int.toNat_of_nonneg (Int.emod_nonneg _ (by omega))]
def RPick (o : O) (ds : List D) (o' : O) (r : D) : Prop := ∃ ns k d xs, o = drawO ns k ∧ ds = [d] ∧ seqD d = some xs ∧ xs ≠ [] ∧ DrOk ns (k + 1) ∧ o' = drawO ns (k + 1) ∧ xs[takeV ns k xs.length]? = some r
abbrev C__law_pick (P : Program) (w : World) (K : PySem.W.Frag) (mg : Str → Option Value) (base : Heap) : Prop := Fn P w K mg base "_law_pick" ["_law_draw", "_law_items"] 3 (SpO ⟨P, w, K⟩ RPick) []
theorem sc__law_pick : FnScope ["_law_draw", "_law_items"] ["_law_draw", "_law_items"] (defScope s__law_pick) := ⟨rfl, rfl, rfl, by decide +kernel, rfl, by decide +kernel, by decide +kernel⟩
theorem fn__law_pick (T : Tx K mg) (F : Dfn K mg "_law_pick" s__law_pick []) (Ftake : C__law_take P w K mg base) : C__law_pick P w K mg base := by
  have sc := sc__law_pick
  refine F.fn (fun _ _ _ _ _ _ us hl => match us, hl with | [_, _], _ => rfl) fun f fd F => ?_
  refine fn_own F sc (by rintro o ds o' r ⟨_, _, _, _, _, rfl, _⟩; rfl) (by decide) fun cdv A outer s H l o ds o' r hr hR => ?_
  obtain ⟨ns, k, d, xs, rfl, rfl, hs, hne, hd, rfl, hx⟩ := hR
  have lp : 0 < xs.length := List.length_pos_iff.mpr hne
  have hl : lenD d = some ((xs.length : Nat) : Int) := by
    cases d with
    | tup ys => cases hs; rfl
    | lst ys => cases hs; rfl
    | _ => cases hs
  have ha : atD d ((takeV ns k xs.length : Nat) : Int) = some r := by
    cases d with
    | tup ys => cases hs; exact atD_tup (atI_n hx)
    | lst ys => cases hs; exact atD_lst (atI_n hx)
    | _ => cases hs
  exact sds_one (sd_ret (pd_at (pd_var 1 rfl) (pd_callO (o' := drawO ns (k + 1)) (r := nD (takeV ns k xs.length)) 0 Ftake (hr.mono (by decide)) dfl_nil rfl (pad_cons (pd_len T.len (pd_var 1 rfl) hl) pad_nil) rfl ⟨ns, k, xs.length, rfl, rfl, lp, hd, rfl, rfl⟩) ha) ⟨rfl, rfl⟩)
end
end WL
set_option Elab.async false
set_option linter.all false
set_option maxRecDepth 100000
set_option maxHeartbeats 800000
namespace WL
open PySem PySem.Spec PyProof.Rows L2
/-- a comprehension whose element changes the state -/
theorem lcr_st {X : Cx} {scope : Scope} {ρ ρ0 ρE : List E} {tg iter elt : Expr} {xs : List D} (S : Nat → List E) (ys : List D) (hs : Src X tg iter ρ ρ0 xs) (h0 : S 0 = ρ0) (js vs : List Nat) (hjs : ∀ j ∈ js, j ∈ vs) (hno : ∀ k : Nat, k ≤ xs.length → ∀ i ∈ vs, (S k)[i]? = some E.no) (hl : xs.length = ys.length) (hlen : xs.length < 100000)
    (turn : ∀ (k : Nat) d y, xs[k]? = some d → ys[k]? = some y → ∃ ρ1 ρ3, GDb X scope tg js (S k) d ρ1 ∧ PDb X scope ρ1 elt ρ3 y ∧ dropE js ρ3 = S (k + 1)) (hE : S xs.length = ρE) : LcR X ρ elt tg iter [] scope vs ρE ys := by
  subst hE
  have h := lcr (ifs := []) (elt := elt) (scope := scope) hs S (fun k => ys.take k) js vs h0 rfl hjs hno hlen (.inl rfl) fun k d hd => by
    have hk : k < ys.length := by rw [← hl]; exact (List.getElem?_eq_some_iff.mp hd).1
    obtain ⟨ρ1, ρ3, h1, h2, h3⟩ := turn k d _ hd (List.getElem?_eq_getElem hk)
    refine ⟨ρ1, ρ1, true, h1, .inl ⟨rfl, rfl, rfl⟩, fun _ => ⟨ρ3, _, h2, h3, ?_⟩, fun z => by cases z⟩
    rw [List.take_add_one, List.getElem?_eq_getElem hk]; rfl
  simpa [hl, List.take_length] using h
/-- .. that filters by a test that changes the state -/
theorem lcr_fst {X : Cx} {scope : Scope} {ρ ρ0 ρE : List E} {tg iter c elt : Expr} {xs ys : List D} (S : Nat → List E) (t : Nat → Bool) (hs : Src X tg iter ρ ρ0 xs) (h0 : S 0 = ρ0) (js vs : List Nat) (hjs : ∀ j ∈ js, j ∈ vs) (hno : ∀ k : Nat, k ≤ xs.length → ∀ i ∈ vs, (S k)[i]? = some E.no) (hlen : xs.length < 100000)
    (out : Nat → List D) (o0 : out 0 = []) (o1 : ∀ k d, xs[k]? = some d → out (k + 1) = if t k = true then out k ++ [d] else out k)
    (turn : ∀ (k : Nat) d, xs[k]? = some d → ∃ ρ1 ρ2, GDb X scope tg js (S k) d ρ1 ∧ PTDb X scope ρ1 c ρ2 (t k) ∧ PDb X scope ρ2 elt ρ2 d ∧ dropE js ρ2 = S (k + 1)) (hE : S xs.length = ρE) (hO : out xs.length = ys) : LcR X ρ elt tg iter [c] scope vs ρE ys := by
  subst hE hO
  exact lcr (ifs := [c]) (elt := elt) (scope := scope) hs S out js vs h0 o0 hjs hno hlen (.inr ⟨c, rfl⟩) fun k d hd => by
    obtain ⟨ρ1, ρ2, h1, h2, h3, h4⟩ := turn k d hd
    refine ⟨ρ1, ρ2, t k, h1, .inr ⟨c, rfl, h2⟩, fun z => ⟨ρ2, d, h3, h4, ?_⟩, fun z => ⟨h4, ?_⟩⟩
    · rw [o1 k d hd, if_pos z]
    · rw [o1 k d hd, if_neg (by rw [z]; exact Bool.false_ne_true)]
theorem star_list {es rest : List Expr} {pos : Pos} {env : Env} : starEach (.List es pos :: rest) env = (false, eval (.List es pos) env) :: starEach rest env := rfl
@[irreducible] def manyV (ns : List Int) (k : Nat) : Nat := 1 + takeV ns k 7
@[irreducible] def evenV (ns : List Int) (k : Nat) : Bool := decide (takeV ns (k + 1) 2 = 0)
def areasV (ns : List Int) (k : Nat) : List Nat := (List.range (manyV ns k)).map fun i => if evenV ns k = true then 1 else 1 + takeV ns (k + 2 + i) 4
@[irreducible] def k3V (ns : List Int) (k : Nat) : Nat := if evenV ns k = true then k + 2 else k + 2 + manyV ns k
def itemsD : List D := [.int 0, .int 0, .int 1, .int 2, .int 3, .int 5, .int 8, .tup [.int 1, .int 2], .tup [.int 7, .int 3]]
def volsV (ns : List Int) (k : Nat) : List D := (List.range (manyV ns k)).map fun i => itemsD.getD (takeV ns (k3V ns k + i) 9) .non
def locksTo (ns : List Int) (k4 : Nat) (j : Nat) : List Nat := ((List.range j).filter fun i => decide (takeV ns (k4 + i) 7 = 0)).map fun i => 1 + i
@[irreducible] def k4V (ns : List Int) (k : Nat) : Nat := k3V ns k + manyV ns k
def locksV (ns : List Int) (k : Nat) : List Nat := locksTo ns (k4V ns k) (manyV ns k - 1)
def k5V (ns : List Int) (k : Nat) : Nat := k4V ns k + (manyV ns k - 1)
theorem pad_list1 {X : Cx} {ρ ρ1 : List E} {es : List Expr} {pos : Pos} {ds : List D} (h : PAD X ρ es ρ1 ds) (hl : ds.length ≤ sizeLine) : PAD X ρ [.List es pos] ρ1 [.lst ds] := pad_cons (PL.lst (pl_lst h hl)) pad_nil star_list
theorem items9 : itemsD.length = 9 := rfl
theorem itemsSz : itemsD.length ≤ sizeLine := by rw [items9]; decide
theorem star_tup {es rest : List Expr} {k : Nat} {pos : Pos} {env : Env} : starEach (.Tuple es k pos :: rest) env = (false, eval (.Tuple es k pos) env) :: starEach rest env := rfl
theorem star_con {c : Const} {rest : List Expr} {k : Nat} {pos : Pos} {env : Env} : starEach (.Constant c k pos :: rest) env = (false, eval (.Constant c k pos) env) :: starEach rest env := rfl
theorem pad_two {X : Cx} {ρ : List E} {a b : Int} (p1 p2 : Pos) : PAD X ρ [.Constant (.int a) 0 p1, .Constant (.int b) 0 p2] ρ [.int a, .int b] :=
  pad_cons pd_int (pad_cons pd_int pad_nil star_con) star_con
theorem pad_ints7 {X : Cx} {ρ : List E} {a1 a2 a3 a4 a5 a6 a7 : Int} (p1 p2 p3 p4 p5 p6 p7 : Pos) {es : List Expr} {ds : List D} (h : PAD X ρ es ρ ds) : PAD X ρ (.Constant (.int a1) 0 p1 :: .Constant (.int a2) 0 p2 :: .Constant (.int a3) 0 p3 :: .Constant (.int a4) 0 p4 :: .Constant (.int a5) 0 p5 :: .Constant (.int a6) 0 p6 :: .Constant (.int a7) 0 p7 :: es) ρ (.int a1 :: .int a2 :: .int a3 :: .int a4 :: .int a5 :: .int a6 :: .int a7 :: ds) :=
  pad_cons pd_int (pad_cons pd_int (pad_cons pd_int (pad_cons pd_int (pad_cons pd_int (pad_cons pd_int (pad_cons pd_int h star_con) star_con) star_con) star_con) star_con) star_con) star_con
theorem pd_two {X : Cx} {ρ : List E} {a b : Int} {k : Nat} (p1 p2 p3 : Pos) : PD X ρ (.Tuple [.Constant (.int a) 0 p1, .Constant (.int b) 0 p2] k p3) ρ (.tup [.int a, .int b]) :=
  pd_tup (pad_two p1 p2) (lenOk rfl)
theorem pad_items {X : Cx} {ρ : List E} {a1 a2 a3 a4 a5 a6 a7 b1 b2 c1 c2 : Int} (p1 p2 p3 p4 p5 p6 p7 p8 p9 p10 p11 p12 p13 : Pos) : PAD X ρ [.Constant (.int a1) 0 p1, .Constant (.int a2) 0 p2, .Constant (.int a3) 0 p3, .Constant (.int a4) 0 p4, .Constant (.int a5) 0 p5, .Constant (.int a6) 0 p6, .Constant (.int a7) 0 p7, .Tuple [.Constant (.int b1) 0 p8, .Constant (.int b2) 0 p9] 0 p10, .Tuple [.Constant (.int c1) 0 p11, .Constant (.int c2) 0 p12] 0 p13] ρ [.int a1, .int a2, .int a3, .int a4, .int a5, .int a6, .int a7, .tup [.int b1, .int b2], .tup [.int c1, .int c2]] := by
  refine @pad_ints7 X ρ a1 a2 a3 a4 a5 a6 a7 p1 p2 p3 p4 p5 p6 p7 _ _ ?_
  exact pad_cons (pd_two p8 p9 p10) (pad_cons (pd_two p11 p12 p13) pad_nil star_tup) star_tup
theorem item_get (ns : List Int) (k : Nat) : itemsD[takeV ns k itemsD.length]? = some (itemsD.getD (takeV ns k 9) .non) := getD_some (takeV_lt ns k (by decide))
theorem item_ne : itemsD ≠ [] := by decide
theorem manyV_le (ns : List Int) (k : Nat) : 1 ≤ manyV ns k ∧ manyV ns k ≤ 7 := by
  have := takeV_lt ns k (m := 7) (by decide)
  unfold manyV; omega
theorem k3V_le (ns : List Int) (k : Nat) : k + 2 ≤ k3V ns k ∧ k3V ns k ≤ k + 9 := by
  have := manyV_le ns k
  unfold k3V
  split <;> omega
theorem k4V_eq (ns : List Int) (k : Nat) : k4V ns k = k3V ns k + manyV ns k := by unfold k4V; rfl
theorem k3V_eq (ns : List Int) (k : Nat) : k3V ns k = if evenV ns k = true then k + 2 else k + 2 + manyV ns k := by unfold k3V; rfl
section
variable {P : Program} {w : World} {K : PySem.W.Frag} {mg : Str → Option Value} {base : Heap}
def drawnD (ns : List Int) (k : Nat) : D := .tup [.tup ((areasV ns k).map nD), .tup (volsV ns k), .lst ((locksV ns k).map nD)]
def RDrawn (o : O) (ds : List D) (o' : O) (r : D) : Prop := ∃ ns k, o = drawO ns k ∧ ds = [nD 7] ∧ DrOk ns (k + 40) ∧ o' = drawO ns (k5V ns k) ∧ r = drawnD ns k
abbrev C__law_drawn (P : Program) (w : World) (K : PySem.W.Frag) (mg : Str → Option Value) (base : Heap) : Prop := Fn P w K mg base "_law_drawn" ["_law_draw", "_law_most"] 4 (SpO ⟨P, w, K⟩ RDrawn) []
theorem sc__law_drawn : FnScope ["_law_draw", "_law_most", "_law_many", "_law_even", "_law_areas", "_law_basin", "_law_volumes", "_law_locks", "_law_weir"] ["_law_draw", "_law_most"] (defScope s__law_drawn) := ⟨rfl, rfl, rfl, by decide +kernel, rfl, by decide +kernel, by decide +kernel⟩
theorem DrOk.le {ns : List Int} {k j : Nat} (h : DrOk ns k) (hj : j ≤ k) : DrOk ns j := ⟨h.1, Nat.lt_of_le_of_lt hj h.2⟩
theorem fn__law_drawn (T : Tx K mg) (F : Dfn K mg "_law_drawn" s__law_drawn []) (Ftake : C__law_take P w K mg base) (Fpick : C__law_pick P w K mg base) : C__law_drawn P w K mg base := by
  have sc := sc__law_drawn
  refine F.fn (fun _ _ _ _ _ _ us hl => match us, hl with | [_, _], _ => rfl) fun f fd F => ?_
  refine fn_own F sc (by rintro o ds o' r ⟨_, _, _, rfl, _⟩; rfl) (by decide) fun cdv A outer s H l o ds o' r hr hR => ?_
  obtain ⟨ns, k, rfl, rfl, hd, rfl, rfl⟩ := hR
  have hm := manyV_le ns k
  have h3 := k3V_le ns k
  have h4 := k4V_eq ns k
  refine sds_cons (sd_asg (d := nD (manyV ns k)) 2 (PD.is (pd_add pd_int (pd_callO (o' := drawO ns (k + 1)) (r := nD (takeV ns k 7)) 0 Ftake (hr.mono (by decide)) dfl_nil rfl (pad_cons (pd_var 1 rfl) pad_nil) rfl ⟨ns, k, 7, rfl, rfl, by decide, hd.le (by omega), rfl, rfl⟩)) (by unfold manyV; show D.int _ = D.int _; congr 1)) ?_ sc.nd)
  refine sds_cons (sd_asg (d := .bl (evenV ns k)) 3 (PD.is (pd_eq (pd_callO (o' := drawO ns (k + 2)) (r := nD (takeV ns (k + 1) 2)) 0 Ftake (hr.mono (by decide)) dfl_nil rfl (pad_cons pd_int pad_nil) rfl ⟨ns, k + 1, 2, rfl, rfl, by decide, hd.le (by omega), rfl, rfl⟩) pd_int) (by unfold evenV; congr 1; exact decide_eq_decide.mpr (by omega))) ?_ sc.nd)
  refine sds_cons (sd_asg (d := .tup ((areasV ns k).map nD)) (ρ1 := [.own l (drawO ns (k3V ns k)), .d (nD 7), .d (nD (manyV ns k)), .d (.bl (evenV ns k)), .no, .no, .no, .no, .no]) 4 (pd_tuple (x := .lst ((areasV ns k).map nD)) T.tuple (PL.lst (pl_lc (own := [("_law_basin", 5)]) (lcr_st (fun i => [.own l (drawO ns (if evenV ns k = true then k + 2 else k + 2 + i)), .d (nD 7), .d (nD (manyV ns k)), .d (.bl (evenV ns k)), .no, .no, .no, .no, .no]) ((areasV ns k).map nD) (src_range1 T.range (pd_var 2 rfl) (by omega)) ?_ [5] [5] (by decide) (fun _ _ => no1 rfl) ?_ ?_ (fun i d y hd' hy => ?_) ?_) sc.nd rfl)) rfl) ?_ sc.nd)
  · show [E.own l (drawO ns (if evenV ns k = true then k + 2 else k + 2 + 0)), _, _, _, _, _, _, _, _] = [E.own l (drawO ns (k + 2)), _, _, _, _, _, _, _, _]
    congr 2
    split <;> rfl
  · rw [rgFrom_len, List.length_map]; unfold areasV; simp
  · rw [rgFrom_len]; omega
  · have hi : i < manyV ns k := by have := (List.getElem?_eq_some_iff.mp hd').1; rw [rgFrom_len] at this; omega
    rw [rgFrom_get (by omega)] at hd'
    cases hd'
    unfold areasV at hy
    rw [List.getElem?_map, List.getElem?_map, List.getElem?_range hi] at hy
    cases hy
    by_cases ev : evenV ns k = true
    · simp only [ev, if_true]
      refine ⟨_, _, fun _ _ _ _ _ => (gd_name 5 sc.nd), fun _ _ _ _ _ => (pd_ifexp (PD.t (pd_var 3 rfl)) (fun hc => PD.is pd_int rfl) (fun hc => by cases hc)), rfl⟩
    · have ev2 : evenV ns k = false := by cases h : evenV ns k; rfl; exact absurd h ev
      simp only [ev2, if_false, Bool.false_ne_true]
      refine ⟨_, _, fun _ _ _ _ _ => (gd_name 5 sc.nd), fun _ _ _ _ _ => (pd_ifexp (PD.t (pd_var 3 rfl)) (fun hc => by cases hc) (fun hc => (PD.is (pd_add pd_int (pd_callO (o' := drawO ns (k + 2 + i + 1)) (r := nD (takeV ns (k + 2 + i) 4)) 0 Ftake (hr.mono (by decide)) dfl_nil rfl (pad_cons pd_int pad_nil) rfl ⟨ns, k + 2 + i, 4, rfl, rfl, by decide, hd.le (by omega), rfl, rfl⟩)) (by show D.int _ = D.int _; congr 1)))), rfl⟩
  · rw [rgFrom_len]
    show [E.own l (drawO ns (if evenV ns k = true then k + 2 else k + 2 + ((manyV ns k : Nat) : Int).toNat)), _, _, _, _, _, _, _, _] = [E.own l (drawO ns (k3V ns k)), _, _, _, _, _, _, _, _]
    rw [k3V_eq]; rfl
  refine sds_cons (sd_asg (d := .tup (volsV ns k)) (ρ1 := [.own l (drawO ns (k4V ns k)), .d (nD 7), .d (nD (manyV ns k)), .d (.bl (evenV ns k)), .d (.tup ((areasV ns k).map nD)), .no, .no, .no, .no]) 6 (pd_tuple (x := .lst (volsV ns k)) T.tuple (PL.lst (pl_lc (own := [("_law_basin", 5)]) (lcr_st (fun i => [.own l (drawO ns (k3V ns k + i)), .d (nD 7), .d (nD (manyV ns k)), .d (.bl (evenV ns k)), .d (.tup ((areasV ns k).map nD)), .no, .no, .no, .no]) (volsV ns k) (src_range1 T.range (pd_var 2 rfl) (by omega)) rfl [5] [5] (by decide) (fun _ _ => no1 rfl) ?_ ?_ (fun i d y hd' hy => ?_) ?_) sc.nd rfl)) rfl) ?_ sc.nd)
  · rw [rgFrom_len]; unfold volsV; simp
  · rw [rgFrom_len]; omega
  · have hi : i < manyV ns k := by have := (List.getElem?_eq_some_iff.mp hd').1; rw [rgFrom_len] at this; omega
    rw [rgFrom_get (by omega)] at hd'
    cases hd'
    unfold volsV at hy
    rw [List.getElem?_map, List.getElem?_range hi] at hy
    cases hy
    refine ⟨_, (([.own l (drawO ns (k3V ns k + i)), .d (nD 7), .d (nD (manyV ns k)), .d (.bl (evenV ns k)), .d (.tup ((areasV ns k).map nD)), .no, .no, .no, .no] : List E).set 5 (.d (.int (0 + (i : Int))))).set 0 (.own l (drawO ns (k3V ns k + i + 1))), fun _ _ _ _ _ => (gd_name 5 sc.nd), fun _ _ _ _ _ => ?_, rfl⟩
    refine pd_callO (ds := [.lst itemsD]) (o := drawO ns (k3V ns k + i)) (o' := drawO ns (k3V ns k + i + 1)) (r := itemsD.getD (takeV ns (k3V ns k + i) 9) .non) 0 Fpick (hr.mono (by decide)) dfl_nil rfl ?_ rfl ⟨ns, k3V ns k + i, .lst itemsD, itemsD, rfl, rfl, rfl, item_ne, hd.le (by omega), rfl, item_get _ _⟩
    refine pad_list1 (ds := itemsD) ?_ ?_
    · exact @pad_items _ _ _ _ _ _ _ _ _ _ _ _ _ _ _ _ _ _ _ _ _ _ _ _ _ _
    · exact itemsSz
  · rw [rgFrom_len, k4V_eq]; rfl
  refine SDs.drop 5 ?_
  refine sds_cons (sd_asgLc (own := [("_law_weir", 8)]) (ρ1 := [.own l (drawO ns (k5V ns k)), .d (nD 7), .d (nD (manyV ns k)), .d (.bl (evenV ns k)), .d (.tup ((areasV ns k).map nD)), .no, .d (.tup (volsV ns k)), .no, .no]) (ds := (locksV ns k).map nD) 7 (lcr_fst (fun i => [.own l (drawO ns (k4V ns k + i)), .d (nD 7), .d (nD (manyV ns k)), .d (.bl (evenV ns k)), .d (.tup ((areasV ns k).map nD)), .no, .d (.tup (volsV ns k)), .no, .no]) (fun i => decide (takeV ns (k4V ns k + i) 7 = 0)) (src_range2 T.range pd_int (pd_var 2 rfl) (by omega)) rfl [8] [8] (by decide) (fun _ _ => no1 rfl) ?_ (fun j => (locksTo ns (k4V ns k) j).map nD) rfl (fun i d hd' => ?_) (fun i d hd' => ?_) ?_ ?_) (fun l_locks => ?_) sc.nd rfl (sw_true rfl rfl rfl (by decide +kernel)))
  · rw [rgFrom_len]; omega
  · have hi : i < manyV ns k - 1 := by have := (List.getElem?_eq_some_iff.mp hd').1; rw [rgFrom_len] at this; omega
    rw [rgFrom_get (by omega)] at hd'
    cases hd'
    unfold locksTo
    rw [List.range_succ, List.filter_append]
    by_cases z : takeV ns (k4V ns k + i) 7 = 0
    · simp [z]
    · simp [z]
  · have hi : i < manyV ns k - 1 := by have := (List.getElem?_eq_some_iff.mp hd').1; rw [rgFrom_len] at this; omega
    rw [rgFrom_get (by omega)] at hd'
    cases hd'
    refine ⟨_, _, fun _ _ _ _ _ => (gd_name 8 sc.nd), fun _ _ _ _ _ => PTD.is (pt_eq (pd_callO (o' := drawO ns (k4V ns k + i + 1)) (r := nD (takeV ns (k4V ns k + i) 7)) 0 Ftake (hr.mono (by decide)) dfl_nil rfl (pad_cons pd_int pad_nil) rfl ⟨ns, k4V ns k + i, 7, rfl, rfl, by decide, hd.le (by omega), rfl, rfl⟩) pd_int) (decide_eq_decide.mpr (by omega)), fun _ _ _ _ _ => (pd_var 8 rfl), rfl⟩
  · rw [rgFrom_len]
    show [E.own l (drawO ns (k4V ns k + _)), _, _, _, _, _, _, _, _] = [E.own l (drawO ns (k5V ns k)), _, _, _, _, _, _, _, _]
    have e : (((manyV ns k : Nat) : Int) - 1).toNat = manyV ns k - 1 := by omega
    rw [e]; rfl
  · rw [rgFrom_len]
    have e : (((manyV ns k : Nat) : Int) - 1).toNat = manyV ns k - 1 := by omega
    rw [e]; rfl
  exact sds_one (sd_ret (pd_tup (pad_cons (pd_var 4 rfl) (pad_cons (pd_var 6 rfl) (pad_cons (pd_frz 7 rfl) pad_nil))) (lenOk rfl)) ⟨rfl, rfl⟩)
end
end WL
set_option Elab.async false
set_option linter.all false
set_option maxRecDepth 100000
set_option maxHeartbeats 800000
namespace WL
open PySem PySem.Spec PyProof.Rows L2
section
variable {P : Program} {w : World} {K : PySem.W.Frag} {mg : Str → Option Value} {base : Heap}
/-! ### volumes as pairs -/
def ItemD (d : D) (q : Rat) : Prop := (∃ j : Int, d = .int j ∧ q = (j : Rat)) ∨ d = qd q
def RPartsOf (ds : List D) (r : D) : Prop := ∃ (xs : List D) (qs : List Rat), ds = [.tup xs] ∧ xs.length = qs.length ∧ (∀ (i : Nat) d q, xs[i]? = some d → qs[i]? = some q → ItemD d q) ∧ qs.length ≤ 1000 ∧ r = .tup (qs.map qd)
abbrev C__law_parts_of (P : Program) (w : World) (K : PySem.W.Frag) (mg : Str → Option Value) (base : Heap) : Prop := Fn P w K mg base "_law_parts_of" ["_law_volumes"] 1 (SpP ⟨P, w, K⟩ RPartsOf) []
theorem sc__law_parts_of : FnScope ["_law_volumes", "_law_volume"] ["_law_volumes"] (defScope s__law_parts_of) := ⟨rfl, rfl, rfl, by decide +kernel, rfl, by decide +kernel, by decide +kernel⟩
theorem fn__law_parts_of (T : Tx K mg) (F : Dfn K mg "_law_parts_of" s__law_parts_of []) : C__law_parts_of P w K mg base := by
  have sc := sc__law_parts_of
  refine F.fn (fun _ _ _ _ _ _ us hl => match us, hl with | [_], _ => rfl) fun f fd F => ?_
  refine fn_pure F sc (by rintro ds r ⟨_, _, rfl, _⟩; rfl) (by decide) fun cdv A outer s H ds r hr hR => ?_
  obtain ⟨xs, qs, rfl, hl, hi, hm, rfl⟩ := hR
  refine sds_one (sd_ret (pd_tuple T.tuple (PL.lst (pl_lc (own := [("_law_volume", 1)]) (lcr_to (qs.map qd) (src_tup (pd_var 0 rfl)) [1] [1] (by decide) (no1 rfl) (by rw [List.length_map]; exact hl) (by omega) (fun k d y hd hy => ?_)) sc.nd rfl)) rfl) rfl)
  rw [List.getElem?_map] at hy
  obtain ⟨q, hq, rfl⟩ := Option.map_eq_some_iff.mp hy
  rcases hi k d q hd hq with ⟨j, rfl, rfl⟩ | rfl
  · refine ⟨_, fun _ _ _ _ _ => (gd_name 1 sc.nd), fun _ _ _ _ _ => (pd_ifexp (p := false) (pd_isT "tuple" T.isinstance T.tuple PyProof.Rows.boot_tuple (pd_var 1 rfl) rfl (by decide +kernel)).t (fun hc => by cases hc) (fun hc => (pd_tup (pad_cons (pd_var 1 rfl) (pad_cons pd_int pad_nil)) (lenOk rfl)))), rfl⟩
  · refine ⟨_, fun _ _ _ _ _ => (gd_name 1 sc.nd), fun _ _ _ _ _ => (pd_ifexp (p := true) (pd_isT "tuple" T.isinstance T.tuple PyProof.Rows.boot_tuple (pd_var 1 rfl) rfl (by decide +kernel)).t (fun hc => (pd_var 1 rfl)) (fun hc => by cases hc)), rfl⟩
/-! ### sums -/
def RLawSums (ds : List D) (r : D) : Prop := ∃ qs : List Rat, ds = [.tup (qs.map qd)] ∧ qs.length ≤ 1000 ∧ (∀ q ∈ qs, Sm q) ∧ SmSums qs ∧ r = .lst ((psums qs).map qd)
abbrev C__law_sums (P : Program) (w : World) (K : PySem.W.Frag) (mg : Str → Option Value) (base : Heap) : Prop := Fn P w K mg base "_law_sums" ["_law_volumes"] 4 (SpP ⟨P, w, K⟩ RLawSums) []
theorem sc__law_sums : FnScope ["_law_volumes", "_law_found", "_law_volume"] ["_law_volumes"] (defScope s__law_sums) := ⟨rfl, rfl, rfl, by decide +kernel, rfl, by decide +kernel, by decide +kernel⟩
theorem fn__law_sums (T : Tx K mg) (F : Dfn K mg "_law_sums" s__law_sums []) (Fplus : C__law_plus P w K mg base) : C__law_sums P w K mg base := by
  have sc := sc__law_sums
  refine F.fn (fun _ _ _ _ _ _ us hl => match us, hl with | [_], _ => rfl) fun f fd F => ?_
  refine fn_pure F sc (by rintro ds r ⟨_, rfl, _⟩; rfl) (by decide) fun cdv A outer s H ds r hr hR => ?_
  obtain ⟨qs, rfl, h1, hs, hss, rfl⟩ := hR
  refine sds_cons (sd_asgL 1 (pl_lst (pad_cons (pd_tup (pad_cons pd_int (pad_cons pd_int pad_nil)) (lenOk rfl)) pad_nil) (lenOk rfl)) (fun l => ?_) sc.nd)
  refine sds_cons (sd_for (fun k ρ => ∃ e, ρ = [.d (.tup (qs.map qd)), .own l (.lst (((List.range (k + 1)).map fun k => sumQ (qs.take k)).map qd)), e]) (src_tup (pd_var 0 rfl)) ⟨_, rfl⟩ (fun k d ρ hd hI => ?_) (fun ρ hI => ?_))
  · obtain ⟨e, rfl⟩ := hI
    rw [List.getElem?_map] at hd
    obtain ⟨v, hv, rfl⟩ := Option.map_eq_some_iff.mp hd
    have hk := (List.getElem?_eq_some_iff.mp hv).1
    refine ⟨_, _, (gd_name 2 sc.nd), ?_⟩
    refine sds_one (sd_append 1 rfl (pd_call Fplus (hr.mono (by decide)) dfl_nil (pad_cons (pd_atO (d := qd (sumQ (qs.take k))) 1 rfl (pd_neg pd_int) ?_ rfl) (pad_cons (pd_var 2 rfl) pad_nil)) ⟨_, _, rfl, hss k, hs v (List.mem_of_getElem? hv), rfl⟩) rfl ?_ ⟨E.d (qd v), ?_⟩)
    · exact atI_map (atI_last (psums_last _ _))
    · rw [List.length_map, List.length_map, List.length_range]; omega
    · have : sumQ (qs.take (k + 1)) = sumQ (qs.take k) + v := foldl_take_succ _ _ hv
      rw [List.range_succ (n := k + 1), List.map_append, List.map_append, List.map_cons, List.map_cons, this]
      rfl
  · obtain ⟨e, rfl⟩ := hI
    refine sds_one (sd_ret (pd_frz 1 rfl) ?_)
    rw [List.length_map]; rfl
/-! ### drawn orders -/
def orderV (ns : List Int) (k : Nat) (ws : List Nat) (m : Nat) : List Nat := if ws = [] then [] else (List.range m).map fun i => ws.getD (takeV ns (k + i) ws.length) 0
def orderK (k : Nat) (ws : List Nat) (m : Nat) : Nat := if ws = [] then k else k + m
def ROrder (o : O) (ds : List D) (o' : O) (r : D) : Prop := ∃ ns k ws m, o = drawO ns k ∧ ds = [.lst (ws.map nD), nD m] ∧ m ≤ 20 ∧ ws.length ≤ 1000 ∧ DrOk ns (k + 40) ∧ o' = drawO ns (orderK k ws m) ∧ r = .lst ((orderV ns k ws m).map nD)
abbrev C__law_order (P : Program) (w : World) (K : PySem.W.Frag) (mg : Str → Option Value) (base : Heap) : Prop := Fn P w K mg base "_law_order" ["_law_draw", "_law_weirs", "_law_many"] 4 (SpO ⟨P, w, K⟩ ROrder) []
theorem sc__law_order : FnScope ["_law_draw", "_law_weirs", "_law_many", "_law_turn"] ["_law_draw", "_law_weirs", "_law_many"] (defScope s__law_order) := ⟨rfl, rfl, rfl, by decide +kernel, rfl, by decide +kernel, by decide +kernel⟩
theorem fn__law_order (T : Tx K mg) (F : Dfn K mg "_law_order" s__law_order []) (Fpick : C__law_pick P w K mg base) : C__law_order P w K mg base := by
  have sc := sc__law_order
  refine F.fn (fun _ _ _ _ _ _ us hl => match us, hl with | [_, _, _], _ => rfl) fun f fd F => ?_
  refine fn_own F sc (by rintro o ds o' r ⟨_, _, _, _, _, rfl, _⟩; rfl) (by decide) fun cdv A outer s H l o ds o' r hr hR => ?_
  obtain ⟨ns, k, ws, m, rfl, rfl, hm, hw, hd, rfl, rfl⟩ := hR
  have hq : PyData.eqv (pyOf (.lst (ws.map nD))) (pyOf (.lst [])) = decide (ws = []) := by
    cases ws with
    | nil => rfl
    | cons a as => rw [decide_eq_false (by simp)]; rfl
  have e1 : (D.lst (ws.map nD)) = .lst ((ws.map Int.ofNat).map D.int) := by rw [nD_map]
  have ok1 : okPy (.lst (ws.map nD)) = true := by
    have : ∀ xs : List Nat, okPys (xs.map nD) = true := fun xs => by
      induction xs with
      | nil => rfl
      | cons a as ih => exact ih
    exact this ws
  have sh1 : SeqAt.shaped (pyOf (.lst (ws.map nD))) = true := by
    have : ∀ xs : List Nat, pyOfs (xs.map nD) = (xs.map Int.ofNat).map PyData.int := fun xs => by
      induction xs with
      | nil => rfl
      | cons a as ih => show PyData.int _ :: pyOfs (as.map nD) = _; rw [ih]; rfl
    show SeqAt.shaped (.list (pyOfs (ws.map nD))) = true
    rw [this]; exact shaped_ints _
  by_cases he : ws = []
  · refine sds_one (sd_ret (ρ1 := [.own l (drawO ns k), .d (.lst (ws.map nD)), .d (nD m), .no]) (pd_ifexp (p := false) (PTD.is (pt_neD (x := .lst (ws.map nD)) (y := .lst []) (v := decide (ws = [])) hr.units (pd_var 1 rfl) (PL.lst (pl_lst pad_nil (lenOk rfl))) ok1 rfl sh1 (by decide +kernel) hq) (by rw [decide_eq_true he]; rfl)) (fun hc => by cases hc) (fun hc => (PL.lst (pl_lst pad_nil (lenOk rfl))))) ⟨?_, ?_⟩)
    · unfold orderV; rw [if_pos he]; rfl
    · unfold orderK; rw [if_pos he]; rfl
  · have hp : 0 < ws.length := List.length_pos_iff.mpr he
    refine sds_one (sd_ret (ρ1 := [.own l (drawO ns (k + m)), .d (.lst (ws.map nD)), .d (nD m), .no]) (pd_ifexp (p := true) (PTD.is (pt_neD (x := .lst (ws.map nD)) (y := .lst []) (v := decide (ws = [])) hr.units (pd_var 1 rfl) (PL.lst (pl_lst pad_nil (lenOk rfl))) ok1 rfl sh1 (by decide +kernel) hq) (by rw [decide_eq_false he]; rfl)) (fun hc => (PL.lst (pl_lc (own := [("_law_turn", 3)]) (lcr_st (fun i => [.own l (drawO ns (k + i)), .d (.lst (ws.map nD)), .d (nD m), .no]) ((orderV ns k ws m).map nD) (src_range1 T.range (pd_var 2 rfl) (by omega)) rfl [3] [3] (by decide) (fun _ _ => no1 rfl) ?_ ?_ (fun i d y hd' hy => ?_) ?_) sc.nd rfl))) (fun hc => by cases hc)) ⟨rfl, ?_⟩)
    · rw [rgFrom_len, List.length_map]; unfold orderV; rw [if_neg he, List.length_map, List.length_range]; omega
    · rw [rgFrom_len]; omega
    · have hi : i < m := by have := (List.getElem?_eq_some_iff.mp hd').1; rw [rgFrom_len] at this; omega
      rw [rgFrom_get (by omega)] at hd'
      cases hd'
      unfold orderV at hy
      rw [if_neg he, List.getElem?_map, List.getElem?_map, List.getElem?_range hi] at hy
      cases hy
      refine ⟨_, ([.own l (drawO ns (k + i)), .d (.lst (ws.map nD)), .d (nD m), .d (.int (0 + (i : Int)))] : List E).set 0 (.own l (drawO ns (k + i + 1))), fun _ _ _ _ _ => (gd_name 3 sc.nd), fun _ _ _ _ _ => (pd_callO (o' := drawO ns (k + i + 1)) 0 Fpick (hr.mono (by decide)) dfl_nil rfl (pad_cons (pd_var 1 rfl) pad_nil) rfl ⟨ns, k + i, .lst (ws.map nD), ws.map nD, rfl, rfl, rfl, by simp [he], hd.le (by omega), rfl, ?_⟩), rfl⟩
      rw [List.length_map, List.getElem?_map, getD_some (d := 0) (takeV_lt ns _ hp)]; rfl
    · rw [rgFrom_len]; rfl
    · unfold orderK; rw [if_neg he]; rfl
/-! ### is no number less -/
def overB (as bs : List Rat) : Bool := !((List.zipWith (fun a b => decide (a < b)) as bs).any id)
def ROver2 (ds : List D) (r : D) : Prop := ∃ (as bs : List Rat), (ds = [.lst (as.map qd), .lst (bs.map qd)] ∨ ds = [.tup (as.map qd), .tup (bs.map qd)]) ∧ (∀ q ∈ as, Sm q) ∧ (∀ q ∈ bs, Sm q) ∧ as.length ≤ 1000 ∧ r = .bl (overB as bs)
abbrev C__law_is_over (P : Program) (w : World) (K : PySem.W.Frag) (mg : Str → Option Value) (base : Heap) : Prop := Fn P w K mg base "_law_is_over" ["_law_more", "_law_less_here"] 2 (SpP ⟨P, w, K⟩ ROver2) []
theorem sc__law_is_over : FnScope ["_law_more", "_law_less_here", "_law_one", "_law_other"] ["_law_more", "_law_less_here"] (defScope s__law_is_over) := ⟨rfl, rfl, rfl, by decide +kernel, rfl, by decide +kernel, by decide +kernel⟩
theorem fn__law_is_over (T : Tx K mg) (F : Dfn K mg "_law_is_over" s__law_is_over []) (Fless : C__law_less P w K mg base) : C__law_is_over P w K mg base := by
  have sc := sc__law_is_over
  refine F.fn (fun _ _ _ _ _ _ us hl => match us, hl with | [_, _], _ => rfl) fun f fd F => ?_
  refine fn_pure F sc (by rintro ds r ⟨_, _, z | z, _⟩ <;> rw [z] <;> rfl) (by decide) fun cdv A outer s H ds r hr hR => ?_
  obtain ⟨as, bs, hds, ha, hb, hl, rfl⟩ := hR
  have zl : (zipD (as.map qd) (bs.map qd)).length = ((List.zipWith (fun a b => decide (a < b)) as bs).map D.bl).length := by
    rw [zipD_len, List.length_map, List.length_map, List.length_map, List.length_zipWith]
  have zs : (zipD (as.map qd) (bs.map qd)).length < 100000 := by rw [zipD_len, List.length_map]; omega
  have get : ∀ (k : Nat) d y, (zipD (as.map qd) (bs.map qd))[k]? = some d → ((List.zipWith (fun a b => decide (a < b)) as bs).map D.bl)[k]? = some y → ∃ a b, a ∈ as ∧ b ∈ bs ∧ d = .tup [qd a, qd b] ∧ y = .bl (decide (a < b)) := fun k d y hd hy => by
    unfold zipD at hd
    rw [List.getElem?_zipWith] at hd
    rw [List.getElem?_map, List.getElem?_zipWith] at hy
    rw [List.getElem?_map, List.getElem?_map] at hd
    cases ea : as[k]? with
    | none => rw [ea] at hd; simp at hd
    | some a =>
      cases eb : bs[k]? with
      | none => rw [ea, eb] at hd; simp at hd
      | some b =>
        rw [ea, eb] at hd hy
        simp at hd hy
        exact ⟨a, b, List.mem_of_getElem? ea, List.mem_of_getElem? eb, hd.symm, hy.symm⟩
  have res : D.bl (!((List.zipWith (fun a b => decide (a < b)) as bs).any id)) = .bl (overB as bs) := rfl
  rcases hds with rfl | rfl
  · refine sds_one (sd_ret (pd_not (pd_any T.any (PL.lst (pl_lc (own := [("_law_one", 2), ("_law_other", 3)]) (lcr_to ((List.zipWith (fun a b => decide (a < b)) as bs).map D.bl) (src_zipL T.zip (pd_var 0 rfl) (pd_var 1 rfl)) [2, 3] [2, 3] (by decide) (no2 rfl rfl) zl zs (fun k d y hd hy => ?_)) sc.nd rfl)))) res)
    obtain ⟨a, b, ma, mb, rfl, rfl⟩ := get k d y hd hy
    exact ⟨_, fun _ _ _ _ _ => (gd_tup2 (gd_name 2 sc.nd) (gd_name 3 sc.nd)), fun _ _ _ _ _ => (pd_call Fless (hr.mono (by decide)) dfl_nil (pad_cons (pd_var 2 rfl) (pad_cons (pd_var 3 rfl) pad_nil)) ⟨a, b, rfl, ha a ma, hb b mb, rfl⟩), rfl⟩
  · refine sds_one (sd_ret (pd_not (pd_any T.any (PL.lst (pl_lc (own := [("_law_one", 2), ("_law_other", 3)]) (lcr_to ((List.zipWith (fun a b => decide (a < b)) as bs).map D.bl) (src_zipT T.zip (pd_var 0 rfl) (pd_var 1 rfl)) [2, 3] [2, 3] (by decide) (no2 rfl rfl) zl zs (fun k d y hd hy => ?_)) sc.nd rfl)))) res)
    obtain ⟨a, b, ma, mb, rfl, rfl⟩ := get k d y hd hy
    exact ⟨_, fun _ _ _ _ _ => (gd_tup2 (gd_name 2 sc.nd) (gd_name 3 sc.nd)), fun _ _ _ _ _ => (pd_call Fless (hr.mono (by decide)) dfl_nil (pad_cons (pd_var 2 rfl) (pad_cons (pd_var 3 rfl) pad_nil)) ⟨a, b, rfl, ha a ma, hb b mb, rfl⟩), rfl⟩
end
end WL
set_option Elab.async false
set_option linter.all false
set_option maxRecDepth 100000
set_option maxHeartbeats 800000
namespace WL
open PySem PySem.Spec PyProof.Rows L2
def q12 : Rat := ⟨1, 2, by decide, by decide⟩
def q13 : Rat := ⟨1, 3, by decide, by decide⟩
def q25 : Rat := ⟨2, 5, by decide, by decide⟩
def q73 : Rat := ⟨7, 3, by decide, by decide⟩
theorem pad_three {X : Cx} {ρ : List E} {a b c d e f : Int} {k1 k2 k3 : Nat} (p1 p2 p3 p4 p5 p6 p7 p8 p9 p : Pos) : PAD X ρ [.List [.Tuple [.Constant (.int a) 0 p1, .Constant (.int b) 0 p2] k1 p3, .Tuple [.Constant (.int c) 0 p4, .Constant (.int d) 0 p5] k2 p6, .Tuple [.Constant (.int e) 0 p7, .Constant (.int f) 0 p8] k3 p9] p] ρ [.lst [.tup [.int a, .int b], .tup [.int c, .int d], .tup [.int e, .int f]]] :=
  pad_list1 (pad_cons (pd_two p1 p2 p3) (pad_cons (pd_two p4 p5 p6) (pad_cons (pd_two p7 p8 p9) pad_nil star_tup) star_tup) star_tup) (lenOk rfl)
def sharesL : List Rat := [1, q12, q13]
def takeQ (L : List Rat) (ns : List Int) (k : Nat) : Rat := L.getD (takeV ns k L.length) 0
theorem pick_get {L : List Rat} (ns : List Int) (k : Nat) (h : 0 < L.length) : (L.map qd)[takeV ns k (L.map qd).length]? = some (qd (takeQ L ns k)) := by
  rw [List.length_map, List.getElem?_map, getD_some (d := 0) (takeV_lt ns k h)]; rfl
theorem takeQ_mem {L : List Rat} (ns : List Int) (k : Nat) (h : 0 < L.length) : takeQ L ns k ∈ L := getD_mem (takeV_lt ns k h)
theorem bd_share {q : Rat} (h : q ∈ sharesL) : 0 ≤ q ∧ q ≤ 1 ∧ ∃ e, 0 < e ∧ e ≤ 3 ∧ Bd e 1 q := by
  unfold sharesL at h
  have h := List.mem_cons.mp h
  rcases h with rfl | h
  · exact ⟨by decide, by decide, 1, by decide, by decide, bd_one⟩
  have h := List.mem_cons.mp h
  rcases h with rfl | h
  · exact ⟨by decide, by decide, 2, by decide, by decide, ⟨1, by decide +kernel⟩, by decide +kernel, by decide +kernel⟩
  · rw [List.mem_singleton.mp h]
    exact ⟨by decide, by decide, 3, by decide, by decide, ⟨1, by decide +kernel⟩, by decide +kernel, by decide +kernel⟩
/-! ### water taken ahead -/
def tkLa (ns : List Int) (k : Nat) (qs : List Rat) : Nat := takeV ns k qs.length
def tkFi (ns : List Int) (k : Nat) (qs : List Rat) : Nat := takeV ns (k + 1) (tkLa ns k qs + 1)
def tkSh (ns : List Int) (k : Nat) (qs : List Rat) : Rat := qs.getD (tkLa ns k qs) 0 * takeQ sharesL ns (k + 2)
def tkMid (ns : List Int) (k : Nat) (qs : List Rat) : List Rat := qs.set (tkLa ns k qs) (qs.getD (tkLa ns k qs) 0 - tkSh ns k qs)
def tkStep (ns : List Int) (k : Nat) (qs : List Rat) : List Rat := (tkMid ns k qs).set (tkFi ns k qs) ((tkMid ns k qs).getD (tkFi ns k qs) 0 + tkSh ns k qs)
def takenV (ns : List Int) (k : Nat) (qs : List Rat) : Nat → List Rat
  | 0 => qs
  | t + 1 => tkStep ns (k + 3 * t) (takenV ns k qs t)
structure TkOk (n D M t : Nat) (qs : List Rat) : Prop where
  len : qs.length = n
  nn : ∀ q ∈ qs, 0 ≤ q
  sz : ∃ D', 0 < D' ∧ D' ≤ D * 3 ^ t ∧ ∀ q ∈ qs, Bd D' (M * 3 ^ t) q
structure TkAll (n D M t : Nat) (ns : List Int) (k : Nat) (qs : List Rat) : Prop where
  la : tkLa ns k qs < n
  fi : tkFi ns k qs ≤ tkLa ns k qs
  s1 : Sm (qs.getD (tkLa ns k qs) 0)
  s2 : Sm (takeQ sharesL ns (k + 2))
  s3 : Sm (tkSh ns k qs)
  s4 : Sm ((tkMid ns k qs).getD (tkFi ns k qs) 0)
  sh0 : 0 ≤ tkSh ns k qs
  nx : TkOk n D M (t + 1) (tkStep ns k qs)
theorem tk_all {n D M t : Nat} {ns : List Int} {k : Nat} {qs : List Rat} (h : TkOk n D M t qs) (hn : 0 < n) (ht : t ≤ 8) (hD : D < 2 ^ 100) (hM : M < 2 ^ 100) : TkAll n D M t ns k qs := by
  obtain ⟨hl, hnn, D', d0, dl, hb⟩ := h
  have la : tkLa ns k qs < n := by unfold tkLa; rw [hl]; exact takeV_lt ns k hn
  have fi : tkFi ns k qs ≤ tkLa ns k qs := by unfold tkFi; have := takeV_lt ns (k + 1) (m := tkLa ns k qs + 1) (by omega); omega
  have ma : qs.getD (tkLa ns k qs) 0 ∈ qs := getD_mem (by omega)
  obtain ⟨c0, c1, e, e0, e3, be⟩ := bd_share (takeQ_mem (L := sharesL) ns (k + 2) (by decide))
  have p1 : 3 ^ (t + 1) ≤ 2 ^ 20 := Nat.le_trans (Nat.pow_le_pow_right (by decide) (show t + 1 ≤ 9 by omega)) (by decide)
  have p2 : D * 3 ^ (t + 1) < 2 ^ 130 := Nat.lt_of_lt_of_le (mul_lt_pow hD (show 3 ^ (t + 1) < 2 ^ 21 by have : (2 : Nat) ^ 20 < 2 ^ 21 := by decide
                                                                                                         omega)) (Nat.pow_le_pow_right (by decide) (by decide))
  have p3 : M * 3 ^ (t + 1) < 2 ^ 130 := Nat.lt_of_lt_of_le (mul_lt_pow hM (show 3 ^ (t + 1) < 2 ^ 21 by have : (2 : Nat) ^ 20 < 2 ^ 21 := by decide
                                                                                                         omega)) (Nat.pow_le_pow_right (by decide) (by decide))
  have ed : D * 3 ^ (t + 1) = D * 3 ^ t * 3 := by rw [Nat.pow_succ, Nat.mul_assoc]
  have em : M * 3 ^ (t + 1) = M * 3 ^ t * 3 := by rw [Nat.pow_succ, Nat.mul_assoc]
  have le : D' * e ≤ D * 3 ^ (t + 1) := by rw [ed]; exact Nat.mul_le_mul dl e3
  have big : ∀ {q : Rat} {E B : Nat}, Bd E B q → 0 < E → E ≤ D * 3 ^ (t + 1) → B ≤ M * 3 ^ (t + 1) → Sm q := fun hb h0 h1 h2 =>
    hb.sm h0 (Nat.lt_of_le_of_lt h1 (Nat.lt_of_lt_of_le p2 (Nat.pow_le_pow_right (by decide) (by decide)))) (Nat.lt_of_lt_of_le (Nat.lt_of_le_of_lt (Nat.mul_le_mul h2 h1) (Nat.mul_lt_mul'' p3 p2)) (by rw [← Nat.pow_add]; exact Nat.pow_le_pow_right (by decide) (by decide)))
  have bq := hb _ ma
  have le1 : D' ≤ D * 3 ^ (t + 1) := Nat.le_trans (Nat.le_mul_of_pos_right _ e0) le
  have bsh : Bd (D' * e) (M * 3 ^ t) (tkSh ns k qs) := by have := bq.mul be; rwa [Nat.mul_one] at this
  have nsh : 0 ≤ tkSh ns k qs := Rat.mul_nonneg (hnn _ ma) c0
  have shle : tkSh ns k qs ≤ qs.getD (tkLa ns k qs) 0 := by
    have := Rat.mul_nonneg (hnn _ ma) (show 0 ≤ 1 - takeQ sharesL ns (k + 2) by grind)
    unfold tkSh
    grind
  have bmid : ∀ q ∈ tkMid ns k qs, Bd (D' * e) (2 * (M * 3 ^ t)) q ∧ 0 ≤ q := fun q hq => by
    rcases mem_set hq with z | z
    · exact ⟨((hb q z).wide (E := e)).mono (by omega), hnn q z⟩
    · rw [z]
      exact ⟨((bq.wide (E := e)).sub bsh).mono (by omega), by grind⟩
  have lmid : (tkMid ns k qs).length = n := by unfold tkMid; rw [List.length_set, hl]
  have mf : (tkMid ns k qs).getD (tkFi ns k qs) 0 ∈ tkMid ns k qs := getD_mem (by omega)
  have bf := bmid _ mf
  refine ⟨la, fi, big bq d0 le1 (by omega), ?_, big bsh (Nat.mul_pos d0 e0) le (by omega), big bf.1 (Nat.mul_pos d0 e0) le (by omega), nsh, ?_, fun q hq => ?_, D' * e, Nat.mul_pos d0 e0, le, fun q hq => ?_⟩
  · exact be.sm e0 (Nat.lt_of_le_of_lt e3 (Nat.lt_of_lt_of_le (show 3 < 2 ^ 2 by decide) (Nat.pow_le_pow_right (by decide) (by decide)))) (Nat.lt_of_le_of_lt (show 1 * e ≤ 3 by omega) (Nat.lt_of_lt_of_le (show 3 < 2 ^ 2 by decide) (Nat.pow_le_pow_right (by decide) (by decide))))
  · unfold tkStep; rw [List.length_set, lmid]
  · rcases mem_set hq with z | z
    · exact (bmid q z).2
    · rw [z]; have := bf.2; grind
  · rcases mem_set hq with z | z
    · exact (bmid q z).1.mono (by omega)
    · rw [z]; exact (bf.1.add bsh).mono (by omega)
theorem taken_ok {n D M : Nat} {ns : List Int} {k : Nat} {qs : List Rat} (h : TkOk n D M 0 qs) (hn : 0 < n) (hD : D < 2 ^ 100) (hM : M < 2 ^ 100) : ∀ t, t ≤ 8 → TkOk n D M t (takenV ns k qs t)
  | 0, _ => h
  | t + 1, ht => (tk_all (taken_ok h hn hD hM t (by omega)) hn (by omega) hD hM).nx
theorem pw_set {v : List Rat} {i : Nat} {x : Rat} (hi : i < v.length) (j : Nat) : Pw (v.set i x) j = if i < j then Pw v j + (x - v.getD i 0) else Pw v j := by
  have hg : v.getD i 0 = v[i] := by rw [List.getD_eq_getElem?_getD, List.getElem?_eq_getElem hi]; rfl
  split
  · next h =>
    have e1 : v.set i x = v.take i ++ x :: v.drop (i + 1) := by rw [List.set_eq_take_append_cons_drop, if_pos hi]
    have e2 : v = v.take i ++ v[i] :: v.drop (i + 1) := by rw [List.getElem_cons_drop, List.take_append_drop]
    have lt : (v.take i).length = i := by rw [List.length_take]; omega
    obtain ⟨m, rfl⟩ : ∃ m, j = i + (m + 1) := ⟨j - i - 1, by omega⟩
    have f : ∀ y : Rat, Pw (v.take i ++ y :: v.drop (i + 1)) (i + (m + 1)) = sumQ (v.take i) + (y + sumQ ((v.drop (i + 1)).take m)) := fun y => by
      unfold Pw
      rw [List.take_append, lt, List.take_of_length_le (by omega)]
      have : i + (m + 1) - i = m + 1 := by omega
      rw [this, List.take_succ_cons, sumQ_append, sumQ_cons]
    have e3 := f v[i]
    rw [← e2] at e3
    rw [e1, f, hg, e3]
    grind
  · next h =>
    unfold Pw
    rw [List.take_set_of_le (by omega)]
theorem tk_dom {n D M t : Nat} {ns : List Int} {k : Nat} {qs : List Rat} (h : TkAll n D M t ns k qs) (hl : qs.length = n) : Dom qs (tkStep ns k qs) := fun j => by
  have la := h.la
  have fi := h.fi
  have s0 := h.sh0
  have lm : (tkMid ns k qs).length = n := by unfold tkMid; rw [List.length_set, hl]
  have e1 : Pw (tkMid ns k qs) j = if tkLa ns k qs < j then Pw qs j - tkSh ns k qs else Pw qs j := by
    unfold tkMid
    rw [pw_set (by omega)]
    split <;> grind
  have e2 : Pw (tkStep ns k qs) j = if tkFi ns k qs < j then Pw (tkMid ns k qs) j + tkSh ns k qs else Pw (tkMid ns k qs) j := by
    unfold tkStep
    rw [pw_set (by omega)]
    split <;> grind
  rw [e2, e1]
  by_cases c1 : tkLa ns k qs < j
  · rw [if_pos c1, if_pos (by omega)]; grind
  · rw [if_neg c1]
    split <;> grind
theorem taken_dom {n D M : Nat} {ns : List Int} {k : Nat} {qs : List Rat} (h : TkOk n D M 0 qs) (hn : 0 < n) (hD : D < 2 ^ 100) (hM : M < 2 ^ 100) : ∀ t, t ≤ 8 → Dom qs (takenV ns k qs t)
  | 0, _ => fun j => Rat.le_refl
  | t + 1, ht => fun j => by
    have ok := taken_ok (k := k) (ns := ns) h hn hD hM t (by omega)
    exact Rat.le_trans (taken_dom h hn hD hM t (by omega) j) (tk_dom (tk_all (ns := ns) (k := k + 3 * t) ok hn (by omega) hD hM) ok.len j)
section
variable {P : Program} {w : World} {K : PySem.W.Frag} {mg : Str → Option Value} {base : Heap}
def RTaken (o : O) (ds : List D) (o' : O) (r : D) : Prop := ∃ ns k qs n Dn M, o = drawO ns k ∧ ds = [.tup (qs.map qd)] ∧ 0 < n ∧ n ≤ 24 ∧ TkOk n Dn M 0 qs ∧ Dn < 2 ^ 100 ∧ M < 2 ^ 100 ∧ DrOk ns (k + 40) ∧ o' = drawO ns (k + 1 + 3 * (1 + takeV ns k 3)) ∧ r = .tup ((takenV ns (k + 1) qs (1 + takeV ns k 3)).map qd)
abbrev C__law_taken (P : Program) (w : World) (K : PySem.W.Frag) (mg : Str → Option Value) (base : Heap) : Prop := Fn P w K mg base "_law_taken" ["_law_draw", "_law_volumes"] 4 (SpO ⟨P, w, K⟩ RTaken) []
theorem sc__law_taken : FnScope ["_law_draw", "_law_volumes", "_law_found", "_law_turn", "_law_last", "_law_first", "_law_share"] ["_law_draw", "_law_volumes"] (defScope s__law_taken) := ⟨rfl, rfl, rfl, by decide +kernel, rfl, by decide +kernel, by decide +kernel⟩
theorem fn__law_taken (T : Tx K mg) (F : Dfn K mg "_law_taken" s__law_taken []) (Ftake : C__law_take P w K mg base) (Fpick : C__law_pick P w K mg base) (Fplus : C__law_plus P w K mg base) (Fminus : C__law_minus P w K mg base) (Ftimes : C__law_times P w K mg base) : C__law_taken P w K mg base := by
  have sc := sc__law_taken
  refine F.fn (fun _ _ _ _ _ _ us hl => match us, hl with | [_, _], _ => rfl) fun f fd F => ?_
  refine fn_own F sc (by rintro o ds o' r ⟨_, _, _, _, _, _, _, rfl, _⟩; rfl) (by decide) fun cdv A outer s H l o ds o' r hr hR => ?_
  obtain ⟨ns, k, qs, n, Dn, M, rfl, rfl, n0, n24, hok, hD, hM, hd, rfl, rfl⟩ := hR
  have h3 := takeV_lt ns k (m := 3) (by decide)
  refine sds_cons (sd_asgL 2 (pl_list (ds := qs.map qd) T.list (pd_var 1 rfl) rfl) (fun l2 => ?_) sc.nd)
  refine sds_cons (sd_for (fun t ρ => ∃ e3 e4 e5 e6, ρ = [.own l (drawO ns (k + 1 + 3 * t)), .d (.tup (qs.map qd)), .own l2 (.lst ((takenV ns (k + 1) qs t).map qd)), e3, e4, e5, e6]) (src_range1 T.range (pd_add pd_int (pd_callO (o' := drawO ns (k + 1)) (r := nD (takeV ns k 3)) 0 Ftake (hr.mono (by decide)) dfl_nil rfl (pad_cons pd_int pad_nil) rfl ⟨ns, k, 3, rfl, rfl, by decide, hd.le (by omega), rfl, rfl⟩)) (by omega)) ⟨_, _, _, _, rfl⟩ (fun t d ρ hd' hI => ?_) (fun ρ hI => ?_))
  · obtain ⟨e3, e4, e5, e6, rfl⟩ := hI
    have ht : t < 1 + takeV ns k 3 := by have := (List.getElem?_eq_some_iff.mp hd').1; rw [rgFrom_len] at this; omega
    have ok := taken_ok (k := k + 1) (ns := ns) hok n0 hD hM t (by omega)
    have al := tk_all (ns := ns) (k := k + 1 + 3 * t) ok n0 (by omega) hD hM
    have en : takenV ns (k + 1) qs (t + 1) = tkStep ns (k + 1 + 3 * t) (takenV ns (k + 1) qs t) := rfl
    have ek : k + 1 + 3 * (t + 1) = k + 1 + 3 * t + 3 := by omega
    rw [en, ek]
    generalize hv : takenV ns (k + 1) qs t = vs at *
    generalize hj : k + 1 + 3 * t = j at *
    have lv := ok.len
    have la := al.la
    have fi := al.fi
    have lm : (tkMid ns j vs).length = n := by unfold tkMid; rw [List.length_set, lv]
    have g1 : atI (vs.map qd) ((tkLa ns j vs : Nat) : Int) = some (qd (vs.getD (tkLa ns j vs) 0)) := atI_map (atI_n (getD_some (by omega)))
    have g2 : atI ((tkMid ns j vs).map qd) ((tkFi ns j vs : Nat) : Int) = some (qd ((tkMid ns j vs).getD (tkFi ns j vs) 0)) := atI_map (atI_n (getD_some (by omega)))
    have dj : DrOk ns (j + 3) := hd.le (by omega)
    refine ⟨_, _, (gd_name 3 sc.nd), ?_⟩
    refine sds_cons (sd_asg (d := nD (tkLa ns j vs)) 4 (pd_callO (o' := drawO ns (j + 1)) (r := nD (tkLa ns j vs)) 0 Ftake (hr.mono (by decide)) dfl_nil rfl (pad_cons (pd_lenO 2 T.len rfl) pad_nil) rfl ⟨ns, j, n, rfl, ?_, n0, dj.le (by omega), rfl, ?_⟩) ?_ sc.nd)
    · rw [List.length_map, lv]; rfl
    · unfold tkLa; rw [lv]
    refine sds_cons (sd_asg (d := nD (tkFi ns j vs)) 5 (pd_callO (o' := drawO ns (j + 2)) (r := nD (tkFi ns j vs)) 0 Ftake (hr.mono (by decide)) dfl_nil rfl (pad_cons (pd_add (pd_var 4 rfl) pd_int) pad_nil) rfl ⟨ns, j + 1, tkLa ns j vs + 1, rfl, rfl, by omega, dj.le (by omega), rfl, rfl⟩) ?_ sc.nd)
    refine sds_cons (sd_asg (d := qd (tkSh ns j vs)) 6 (pd_call Ftimes (hr.mono (by decide)) dfl_nil (pad_cons (pd_atO (d := qd (vs.getD (tkLa ns j vs) 0)) 2 rfl (pd_var 4 rfl) g1 rfl) (pad_cons (pd_callO (o' := drawO ns (j + 3)) (r := qd (takeQ sharesL ns (j + 2))) 0 Fpick (hr.mono (by decide)) dfl_nil rfl (pad_three _ _ _ _ _ _ _ _ _ _) rfl ⟨ns, j + 2, .lst (sharesL.map qd), sharesL.map qd, rfl, rfl, rfl, by decide, dj, rfl, pick_get ns (j + 2) (by decide)⟩) pad_nil)) ⟨_, _, rfl, al.s1, al.s2, rfl⟩) ?_ sc.nd)
    refine sds_cons (sd_asgG (d := qd (vs.getD (tkLa ns j vs) 0 - tkSh ns j vs)) (pd_call Fminus (hr.mono (by decide)) dfl_nil (pad_cons (pd_atO (d := qd (vs.getD (tkLa ns j vs) 0)) 2 rfl (pd_var 4 rfl) g1 rfl) (pad_cons (pd_var 6 rfl) pad_nil)) ⟨_, _, rfl, al.s1, al.s3, rfl⟩) (gd_sub (m := tkLa ns j vs) 2 rfl (pd_var 4 rfl) (by rw [List.length_map]; exact ixN_n (by omega))) ?_)
    have em : (vs.map qd).set (tkLa ns j vs) (qd (vs.getD (tkLa ns j vs) 0 - tkSh ns j vs)) = (tkMid ns j vs).map qd := by unfold tkMid; rw [map_set_qd]
    rw [em]
    refine sds_one (sd_asgG (d := qd ((tkMid ns j vs).getD (tkFi ns j vs) 0 + tkSh ns j vs)) (pd_call Fplus (hr.mono (by decide)) dfl_nil (pad_cons (pd_atO (d := qd ((tkMid ns j vs).getD (tkFi ns j vs) 0)) 2 rfl (pd_var 5 rfl) g2 rfl) (pad_cons (pd_var 6 rfl) pad_nil)) ⟨_, _, rfl, al.s4, al.s3, rfl⟩) (gd_sub (m := tkFi ns j vs) 2 rfl (pd_var 5 rfl) (by rw [List.length_map]; exact ixN_n (by omega))) ⟨E.d d, E.d (nD (tkLa ns j vs)), E.d (nD (tkFi ns j vs)), E.d (qd (tkSh ns j vs)), ?_⟩)
    have ef : ((tkMid ns j vs).map qd).set (tkFi ns j vs) (qd ((tkMid ns j vs).getD (tkFi ns j vs) 0 + tkSh ns j vs)) = (tkStep ns j vs).map qd := by unfold tkStep; rw [map_set_qd]
    rw [ef]; rfl
  · obtain ⟨e3, e4, e5, e6, rfl⟩ := hI
    rw [rgFrom_len]
    have e : (1 + ((takeV ns k 3 : Nat) : Int)).toNat = 1 + takeV ns k 3 := by omega
    rw [e]
    exact sds_one (sd_ret (pd_tuple T.tuple (pd_frz 2 rfl) rfl) ⟨rfl, rfl⟩)
end
end WL
set_option Elab.async false
set_option linter.all false
set_option maxRecDepth 100000
set_option maxHeartbeats 800000
namespace WL
open PySem PySem.Spec PyProof.Rows L2
/-! what comes in, what goes out -/
def inF (c : Cst) : List Nat → Rat
  | [] => 0
  | k :: o => (if k = 0 then gt (copen c k).r.vo 0 - gt c.r.vo 0 else 0) + inF (copen c k) o
def outF (n : Nat) (c : Cst) : List Nat → Rat
  | [] => 0
  | k :: o => (if k ≠ 0 ∧ k = n then gt c.r.vo (n - 1) - gt (copen c k).r.vo (n - 1) else 0) + outF n (copen c k) o
theorem infl_in : ∀ (o : List Nat) (c : Cst) (q : Rat), (o.foldl inflStep (q, c)).1 = q + inF c o
  | [], c, q => by show q = q + 0; grind
  | k :: o, c, q => by
    show (o.foldl inflStep (inflStep (q, c) k)).1 = _
    have e : inflStep (q, c) k = (if k = 0 then q + (gt (copen c k).r.vo 0 - gt c.r.vo 0) else q, copen c k) := rfl
    rw [e, infl_in o, inF]
    split <;> grind
theorem inflow_in (c : Cst) (o : List Nat) : inflowV c o = inF c o := by
  unfold inflowV inflSt
  rw [infl_in]; grind
theorem sum_pw {v : List Rat} : sumQ v = Pw v v.length := by unfold Pw; rw [List.take_length]
theorem open_sum {n : Nat} {ar : List Nat} {c : Cst} {k : Nat} (h : Like n ar c) (hk : k ≤ n) : sumQ (copen c k).r.vo = sumQ c.r.vo + (if k = 0 then gt (copen c k).r.vo 0 - gt c.r.vo 0 else 0) - (if k ≠ 0 ∧ k = n then gt c.r.vo (n - 1) - gt (copen c k).r.vo (n - 1) else 0) := by
  obtain ⟨h1, h2, h3, h4, h5⟩ := h
  have l2 : (copen c k).r.vo.length = n := (Like.open ⟨h1, h2, h3, h4, h5⟩ hk).len
  rw [sum_pw, sum_pw, l2, h4]
  show Pw (copenV c k) n = Pw c.r.vo n + (if k = 0 then gt (copenV c k) 0 - gt c.r.vo 0 else 0) - (if k ≠ 0 ∧ k = n then gt c.r.vo (n - 1) - gt (copenV c k) (n - 1) else 0)
  unfold copenV
  by_cases k0 : k = 0
  · rw [if_pos k0, if_pos k0, if_neg (by omega), gt_set (by omega), if_pos rfl, pw_set (by omega), if_pos (by omega)]
    grind
  · rw [if_neg k0, if_neg k0]
    rw [h1, h2]
    by_cases kn : k = n
    · rw [if_pos kn, if_pos ⟨k0, kn⟩, gt_set (by omega), if_pos rfl, pw_set (by omega), if_pos (by omega)]
      grind
    · rw [if_neg kn, if_neg (by omega), pw_open (by omega) (by omega), if_neg (by omega)]
      grind
theorem after_sum {n : Nat} {ar : List Nat} : ∀ (o : List Nat) {c : Cst}, Like n ar c → (∀ k ∈ o, k ≤ n) → sumQ (afterC c o).r.vo = sumQ c.r.vo + inF c o - outF n c o
  | [], c, _, _ => by show sumQ c.r.vo = sumQ c.r.vo + 0 - 0; grind
  | k :: o, c, h, ho => by
    have hk := ho k (by simp)
    have ih := after_sum o (h.open hk) fun j hj => ho j (List.mem_cons_of_mem _ hj)
    show sumQ (afterC (copen c k) o).r.vo = _
    rw [ih, open_sum h hk, inF, outF]
    grind
theorem out_mono {n : Nat} {ar : List Nat} : ∀ (o : List Nat) {c d : Cst}, Below n ar c d → c.rt = d.rt → (∀ k ∈ o, k ≤ n) → outF n c o ≤ outF n d o
  | [], _, _, _, _, _ => Rat.le_refl
  | k :: o, c, d, h, hr, ho => by
    have hk := ho k (by simp)
    have ih := out_mono o (h.open hk) hr fun j hj => ho j (List.mem_cons_of_mem _ hj)
    rw [outF, outF]
    by_cases q : k ≠ 0 ∧ k = n
    · rw [if_pos q, if_pos q, h.lc.gt hk, h.ld.gt hk, if_neg q.1, if_neg q.1, if_pos q.2, if_pos q.2, if_pos rfl, if_pos rfl, hr]
      have := h.le (n - 1)
      grind
    · rw [if_neg q, if_neg q]; grind
theorem out_zero {n : Nat} : ∀ (o : List Nat) (c : Cst), n ∉ o → outF n c o = 0
  | [], _, _ => rfl
  | k :: o, c, h => by
    rw [outF, out_zero o (copen c k) fun z => h (List.mem_cons_of_mem _ z), if_neg (fun q => h (by rw [q.2]; simp))]; grind
/-- what runs through a cycle, is no less with higher seas on the left -/
theorem flow_mono {n : Nat} {ar : List Nat} {c d : Cst} {ex : List Nat} (hc : Wash n ar c ex) (hd : Wash n ar d ex) (hl : c.lf.getD 0 ≤ d.lf.getD 0) (hr : c.rt = d.rt) : inflowV (withV c (cycX c (washO n ex))) (washO n ex) ≤ inflowV (withV d (cycX d (washO n ex))) (washO n ex) := by
  have eq : ∀ {c : Cst}, Wash n ar c ex → inflowV (withV c (cycX c (washO n ex))) (washO n ex) = outF n (withV c (cycX c (washO n ex))) (washO n ex) := fun {c} h => by
    obtain ⟨lx, _, fx⟩ := h.x
    have s := after_sum (washO n ex) (h.shp.like lx) h.le
    rw [fx] at s
    rw [inflow_in]
    have e : (withV c (cycX c (washO n ex))).r.vo = cycX c (washO n ex) := rfl
    rw [e] at s
    grind
  rw [eq hc, eq hd]
  have m := cyc_mono hc hd hl (by rw [hr]; exact Rat.le_refl)
  exact out_mono (ar := ar) _ ⟨hc.shp.like hc.x.1, hd.shp.like hd.x.1, m, hl, (by show c.rt.getD 0 ≤ d.rt.getD 0; rw [hr]; exact Rat.le_refl)⟩ hr hc.le
/-- where nothing goes out on the right, what came in is there -/
theorem in_sum {n : Nat} {ar : List Nat} {c : Cst} {o : List Nat} (h : Like n ar c) (ho : ∀ k ∈ o, k ≤ n) (hn : n ∉ o) : sumQ (afterC c o).r.vo - sumQ c.r.vo = inflowV c o := by
  have s := after_sum o h ho
  rw [out_zero o c hn] at s
  rw [inflow_in, s]; grind
/-! ### the bounds far from a sea -/
theorem foldl_max_ge : ∀ (qs : List Rat) (q : Rat), q ≤ qs.foldl (fun f x => if f < x then x else f) q ∧ ∀ x ∈ qs, x ≤ qs.foldl (fun f x => if f < x then x else f) q
  | [], q => ⟨Rat.le_refl, fun x hx => by cases hx⟩
  | y :: qs, q => by
    obtain ⟨h1, h2⟩ := foldl_max_ge qs (if q < y then y else q)
    show q ≤ qs.foldl (fun f x => if f < x then x else f) (if q < y then y else q) ∧ _
    have a : q ≤ (if q < y then y else q) ∧ y ≤ (if q < y then y else q) := by
      split
      · exact ⟨Rat.le_of_lt (by assumption), Rat.le_refl⟩
      · next c => exact ⟨Rat.le_refl, Rat.not_lt.mp c⟩
    refine ⟨Rat.le_trans a.1 h1, fun x hx => ?_⟩
    rcases List.mem_cons.mp hx with rfl | hx
    · exact Rat.le_trans a.2 h1
    · exact h2 x hx
theorem foldl_min_le : ∀ (qs : List Rat) (q : Rat), qs.foldl (fun f x => if x < f then x else f) q ≤ q ∧ ∀ x ∈ qs, qs.foldl (fun f x => if x < f then x else f) q ≤ x
  | [], q => ⟨Rat.le_refl, fun x hx => by cases hx⟩
  | y :: qs, q => by
    obtain ⟨h1, h2⟩ := foldl_min_le qs (if y < q then y else q)
    show qs.foldl (fun f x => if x < f then x else f) (if y < q then y else q) ≤ q ∧ _
    have a : (if y < q then y else q) ≤ q ∧ (if y < q then y else q) ≤ y := by
      split
      · exact ⟨Rat.le_of_lt (by assumption), Rat.le_refl⟩
      · next c => exact ⟨Rat.le_refl, Rat.not_lt.mp c⟩
    refine ⟨Rat.le_trans h1 a.1, fun x hx => ?_⟩
    rcases List.mem_cons.mp hx with rfl | hx
    · exact Rat.le_trans h1 a.2
    · exact h2 x hx
theorem maxQ_ge : ∀ {qs : List Rat} {x : Rat}, x ∈ qs → x ≤ maxQ qs
  | q :: qs, x, h => by
    obtain ⟨h1, h2⟩ := foldl_max_ge qs q
    rcases List.mem_cons.mp h with rfl | h
    · exact h1
    · exact h2 x h
theorem minQ_le : ∀ {qs : List Rat} {x : Rat}, x ∈ qs → minQ qs ≤ x
  | q :: qs, x, h => by
    obtain ⟨h1, h2⟩ := foldl_min_le qs q
    rcases List.mem_cons.mp h with rfl | h
    · exact h1
    · exact h2 x h
theorem bent_inA (x : Rw) (h : Rat) {p i : Nat} (h1 : p ≤ i) (h2 : i ≤ x.ar.length) : candA x h p i ∈ bentL x h p := by
  unfold bentL bentTo
  refine List.mem_flatMap.mpr ⟨i - p, List.mem_range.mpr (by omega), ?_⟩
  unfold bentRow
  have e : p + (i - p) = i := by omega
  rw [e]; simp
theorem bent_inB (x : Rw) (h : Rat) {p i j : Nat} (h1 : p ≤ i) (h2 : i ≤ x.ar.length) (h3 : j < p) : candB x p i j ∈ bentL x h p := by
  unfold bentL bentTo
  refine List.mem_flatMap.mpr ⟨i - p, List.mem_range.mpr (by omega), ?_⟩
  unfold bentRow
  have e : p + (i - p) = i := by omega
  rw [e]
  exact List.mem_cons_of_mem _ (List.mem_map.mpr ⟨j, List.mem_range.mpr h3, rfl⟩)
theorem part_mono {v w : List Rat} (hl : v.length = w.length) (h : ∀ i, gt v i ≤ gt w i) (a : Nat) : ∀ m, a + m ≤ v.length → Pw v (a + m) - Pw v a ≤ Pw w (a + m) - Pw w a
  | 0, _ => by rw [Nat.add_zero]; grind
  | m + 1, hm => by
    have ih := part_mono hl h a m (by omega)
    rw [← Nat.add_assoc, pw_succ (by omega), pw_succ (v := w) (by omega)]
    have := h (a + m)
    grind
theorem part_le {v w : List Rat} (hl : v.length = w.length) (h : ∀ i, gt v i ≤ gt w i) {a b : Nat} (hab : a ≤ b) (hb : b ≤ v.length) : Pw v b - Pw v a ≤ Pw w b - Pw w a := by
  have := part_mono hl h a (b - a) (by omega)
  have e : a + (b - a) = b := by omega
  rwa [e] at this
theorem cast_xf (x : Rw) (i j : Nat) : (((Xv x i : Int) - (Xv x j : Int) : Int) : Rat) = XF x.ar i - XF x.ar j := by
  unfold XF Xv; push_cast; rfl
theorem candA_le {x y : Rw} {h h' : Rat} {p i : Nat} (hx : RowOk x) (hy : RowOk y) (ea : y.ar = x.ar) (hv : ∀ i, gt x.vo i ≤ gt y.vo i) (hh : h ≤ h') (h1 : p ≤ i) (h2 : i ≤ x.ar.length) : Wv x x.ar.length - candA x h p i ≤ Wv y y.ar.length - candA y h' p i := by
  unfold candA
  rw [cast_xf, cast_xf, ea]
  have hl : x.vo.length = y.vo.length := by rw [hx.len, hy.len, ea]
  have a := part_le hl hv h2 (by rw [hx.len]; exact Nat.le_refl _)
  have b := Rat.mul_nonneg (show 0 ≤ h' - h by grind) (show 0 ≤ XF x.ar i - XF x.ar p by have := xf_le hx h1 h2; grind)
  show Pw x.vo x.ar.length - (Pw x.vo i - _) ≤ Pw y.vo x.ar.length - (Pw y.vo i - _)
  grind
theorem candB_le {x y : Rw} {p i j : Nat} (hx : RowOk x) (hy : RowOk y) (ea : y.ar = x.ar) (hv : ∀ i, gt x.vo i ≤ gt y.vo i) (h1 : p ≤ i) (h2 : i ≤ x.ar.length) (h3 : j < p) : Wv x x.ar.length - candB x p i j ≤ Wv y y.ar.length - candB y p i j := by
  unfold candB
  rw [cast_xf, cast_xf, cast_xf, cast_xf, ea]
  have hl : x.vo.length = y.vo.length := by rw [hx.len, hy.len, ea]
  have a := part_le hl hv h2 (by rw [hx.len]; exact Nat.le_refl _)
  have a2 := part_le hl hv (show j ≤ i by omega) (by rw [hx.len]; exact h2)
  have ji := xf_lt hx (show j < i by omega) h2
  have b := Rat.mul_nonneg (show 0 ≤ XF x.ar i - XF x.ar p by have := xf_le hx h1 h2; grind) (Rat.le_of_lt (Rat.inv_pos.mpr (show 0 < XF x.ar i - XF x.ar j by grind)))
  have b2 := Rat.mul_nonneg (show 0 ≤ (Pw y.vo i - Pw y.vo j) - (Pw x.vo i - Pw x.vo j) by grind) b
  show Pw x.vo x.ar.length - (Pw x.vo i - (Pw x.vo i - Pw x.vo j) / _ * _) ≤ Pw y.vo x.ar.length - (Pw y.vo i - (Pw y.vo i - Pw y.vo j) / _ * _)
  rw [Rat.div_def, Rat.div_def]
  grind
/-- with more water and a higher sea both bounds are no lower -/
theorem far_mono {x y : Rw} {h h' : Rat} {p : Nat} (hx : RowOk x) (hy : RowOk y) (ea : y.ar = x.ar) (hv : ∀ i, gt x.vo i ≤ gt y.vo i) (hh : h ≤ h') (hp : p ≤ x.ar.length) :
    Wv x x.ar.length - bentV x h p true ≤ Wv y y.ar.length - bentV y h' p true ∧ Wv x x.ar.length - bentV x h p false ≤ Wv y y.ar.length - bentV y h' p false := by
  have nx : bentL x h p ≠ [] := bentL_ne hp
  have ny : bentL y h' p ≠ [] := bentL_ne (by rw [ea]; exact hp)
  unfold bentV
  simp only [if_true, if_false, Bool.false_eq_true]
  constructor
  · obtain ⟨i, hi, q | ⟨j, hj, q⟩⟩ := bent_mem (maxQ_mem ny)
    · change maxQ (bentL y h' p) = _ at q
      rw [q]
      have a := candA_le hx hy ea hv hh (p := p) (i := p + i) (by omega) (by rw [ea] at hi; omega)
      have b := maxQ_ge (bent_inA x h (p := p) (i := p + i) (by omega) (by rw [ea] at hi; omega))
      grind
    · change maxQ (bentL y h' p) = _ at q
      rw [q]
      have a := candB_le hx hy ea hv (p := p) (i := p + i) (by omega) (by rw [ea] at hi; omega) hj
      have b := maxQ_ge (bent_inB x h (p := p) (i := p + i) (by omega) (by rw [ea] at hi; omega) hj)
      grind
  · obtain ⟨i, hi, q | ⟨j, hj, q⟩⟩ := bent_mem (minQ_mem nx)
    · change minQ (bentL x h p) = _ at q
      rw [q]
      have a := candA_le hx hy ea hv hh (p := p) (i := p + i) (by omega) (by omega)
      have b := minQ_le (bent_inA y h' (p := p) (i := p + i) (by omega) (by rw [ea]; omega))
      grind
    · change minQ (bentL x h p) = _ at q
      rw [q]
      have a := candB_le hx hy ea hv (p := p) (i := p + i) (by omega) (by omega) hj
      have b := minQ_le (bent_inB y h' (p := p) (i := p + i) (by omega) (by rw [ea]; omega) hj)
      grind
end WL
set_option Elab.async false
set_option linter.all false
set_option maxRecDepth 100000
set_option maxHeartbeats 800000
set_option exponentiation.threshold 500
namespace WL
open PySem PySem.Spec PyProof.Rows L2
/-! seas: the plain facts -/
theorem over_true {as bs : List Rat} (h : ∀ (i : Nat) a b, as[i]? = some a → bs[i]? = some b → b ≤ a) : overB as bs = true := by
  have : (List.zipWith (fun a b => decide (a < b)) as bs).any id = false := by
    rw [List.any_eq_false]
    intro x hx
    obtain ⟨i, hi⟩ := List.mem_iff_getElem?.mp hx
    rw [List.getElem?_zipWith] at hi
    cases ea : as[i]? with
    | none => rw [ea] at hi; simp at hi
    | some a =>
      cases eb : bs[i]? with
      | none => rw [ea, eb] at hi; simp at hi
      | some b =>
        rw [ea, eb] at hi
        have hi : decide (a < b) = x := by simpa using hi
        have := h i a b ea eb
        rw [← hi]
        have : ¬ a < b := Rat.not_lt.mpr this
        simp [this]
  unfold overB
  rw [this]; rfl
theorem gt_some {v : List Rat} {i : Nat} {a : Rat} (h : v[i]? = some a) : gt v i = a := by show v.getD i 0 = a; rw [List.getD_eq_getElem?_getD, h]; rfl
theorem over_gt {as bs : List Rat} (h : ∀ i, gt bs i ≤ gt as i) : overB as bs = true := over_true fun i a b ha hb => by
  have := h i
  rwa [gt_some ha, gt_some hb] at this
def addsL : List Rat := [0, q12, 3]
theorem adds_ok {q : Rat} (h : q ∈ addsL) : 0 ≤ q ∧ Bd 2 3 q := by
  unfold addsL at h
  have h := List.mem_cons.mp h
  rcases h with rfl | h
  · exact ⟨by decide, ⟨0, by decide +kernel⟩, by decide +kernel, by decide +kernel⟩
  have h := List.mem_cons.mp h
  rcases h with rfl | h
  · exact ⟨by decide, ⟨1, by decide +kernel⟩, by decide +kernel, by decide +kernel⟩
  · rw [List.mem_singleton.mp h]
    exact ⟨by decide, ⟨6, by decide +kernel⟩, by decide +kernel, by decide +kernel⟩
/-- areas, volumes, more volumes -/
structure SeaIn (ar : List Nat) (vs ms : List Rat) : Prop where
  pos : 1 ≤ ar.length
  n7 : ar.length ≤ 7
  a4 : ∀ a ∈ ar, 1 ≤ a ∧ a ≤ 4
  lv : vs.length = ar.length
  lm : ms.length = ar.length
  nv : ∀ q ∈ vs, 0 ≤ q
  nm : ∀ q ∈ ms, 0 ≤ q
  bv : ∀ q ∈ vs, Bd 6 64 q
  bm : ∀ q ∈ ms, Bd 6 64 q
  le : ∀ i, gt vs i ≤ gt ms i
def cst (ar : List Nat) (v : List Rat) (l r : Option Rat) : Cst := ⟨⟨ar, v, []⟩, l, r⟩
structure SeaRow (ar : List Nat) (v : List Rat) : Prop where
  pos : 1 ≤ ar.length
  n7 : ar.length ≤ 7
  a4 : ∀ a ∈ ar, 1 ≤ a ∧ a ≤ 4
  lv : v.length = ar.length
  nv : ∀ q ∈ v, 0 ≤ q
  bv : ∀ q ∈ v, Bd 6 64 q
theorem SeaIn.v {ar : List Nat} {vs ms : List Rat} (h : SeaIn ar vs ms) : SeaRow ar vs := ⟨h.pos, h.n7, h.a4, h.lv, h.nv, h.bv⟩
theorem SeaIn.m {ar : List Nat} {vs ms : List Rat} (h : SeaIn ar vs ms) : SeaRow ar ms := ⟨h.pos, h.n7, h.a4, h.lm, h.nm, h.bm⟩
theorem SeaRow.ok {ar : List Nat} {v : List Rat} (h : SeaRow ar v) : RowOk ⟨ar, v, []⟩ := ⟨h.pos, by have := h.n7; show ar.length ≤ 24; omega, fun a ha => by have := h.a4 a ha; exact ⟨this.1, by omega⟩, h.lv, h.nv, List.Pairwise.nil, fun l hl => by cases hl⟩
theorem SeaRow.areas {ar : List Nat} {v : List Rat} (h : SeaRow ar v) : AreasOk ar := h.ok.areas
theorem SeaRow.sm {ar : List Nat} {v : List Rat} (h : SeaRow ar v) : ∀ q ∈ v, Sm q := fun q hq => (h.bv q hq).sm (by decide) (Nat.lt_of_lt_of_le (show 6 < 2 ^ 3 by decide) (Nat.pow_le_pow_right (by decide) (by decide))) (Nat.lt_of_lt_of_le (show 64 * 6 < 2 ^ 9 by decide) (Nat.pow_le_pow_right (by decide) (by decide)))
theorem SeaRow.sz {ar : List Nat} {v : List Rat} (h : SeaRow ar v) : RowSz ⟨ar, v, []⟩ := ⟨6, 64, by decide, Nat.lt_of_lt_of_le (show 6 < 2 ^ 3 by decide) (Nat.pow_le_pow_right (by decide) (by decide)), Nat.lt_of_lt_of_le (show 64 < 2 ^ 7 by decide) (Nat.pow_le_pow_right (by decide) (by decide)), h.bv⟩
theorem SeaRow.coast {ar : List Nat} {v : List Rat} {l r : Option Rat} (h : SeaRow ar v) (hl : HtOk l) (hr : HtOk r) : CoOk (cst ar v l r) := ⟨h.ok, h.n7, fun a ha => (h.a4 a ha).2, rfl, hl, hr⟩
theorem SeaRow.csz {ar : List Nat} {v : List Rat} (h : SeaRow ar v) : CSz 6 64 v := ⟨6, 64, by decide, ⟨3, rfl⟩, Nat.le_refl _, Nat.le_refl _, by decide, h.bv⟩
theorem SeaRow.shp {ar : List Nat} {v : List Rat} {l r : Option Rat} (h : SeaRow ar v) : Shp ar.length ar (cst ar v l r) := ⟨rfl, rfl, h.pos, fun a ha => (h.a4 a ha).1⟩
theorem SeaRow.like {ar : List Nat} {v : List Rat} {l r : Option Rat} (h : SeaRow ar v) : Like ar.length ar (cst ar v l r) := ⟨rfl, rfl, h.pos, h.lv, fun a ha => (h.a4 a ha).1⟩
theorem SeaRow.wash {ar : List Nat} {v : List Rat} {l r : Rat} {ex : List Nat} (h : SeaRow ar v) (hl : HtOk (some l)) (hr : HtOk (some r)) (he : ∀ k ∈ ex, k ≤ ar.length) (e3 : ex.length ≤ 3) : Wash ar.length ar (cst ar v (some l) (some r)) ex := ⟨h.shp, h.coast hl hr, rfl, rfl, he, e3⟩
theorem SeaRow.aft {ar : List Nat} {v : List Rat} {l r : Option Rat} {o : List Nat} (h : SeaRow ar v) (hl : HtOk l) (hr : HtOk r) (ho : ∀ k ∈ o, InC (cst ar v l r) k) (h15 : o.length ≤ 15) : AftOk (cst ar v l r) o 6 64 := ⟨h.coast hl hr, ho, h15, h.csz, p43 (by decide), p3e5 (by decide)⟩
theorem infl_sm {c : Cst} {o : List Nat} {D M : Nat} (h : AftOk c o D M) (m32 : 32 ≤ M) (hex : ∃ D', 0 < D' ∧ 2 ∣ D' ∧ D' ≤ D ∧ ∀ q ∈ c.r.vo, Bd D' M q) : Sm (inflowV c o) := by
  obtain ⟨_, E, e0, _, e2, _, e4⟩ := infl_step h m32 hex o.length (Nat.le_refl _)
  rw [List.take_length] at e4
  have hlen := h.len
  have a1 : 8 ^ o.length < 2 ^ 46 := Nat.lt_of_le_of_lt (Nat.pow_le_pow_right (by decide) hlen) (by decide)
  have a2 : 6 ^ o.length < 2 ^ 46 := Nat.lt_of_le_of_lt (Nat.pow_le_pow_right (by decide) hlen) (by decide)
  have b1 := mul_lt_pow h.hD a1
  have b2 := mul_lt_pow (show 2 < 2 ^ 2 by decide) (mul_lt_pow h.hM a2)
  have b3 := mul_lt_pow b2 b1
  exact e4.sm e0 (Nat.lt_of_le_of_lt e2 (Nat.lt_of_lt_of_le b1 (Nat.pow_le_pow_right (by decide) (by decide)))) (Nat.lt_of_le_of_lt (Nat.mul_le_mul_left _ e2) (Nat.lt_of_lt_of_le b3 (Nat.pow_le_pow_right (by decide) (by decide))))
theorem cyc_sm {c : Cst} {o : List Nat} (h : CycOk c o) : (∀ q ∈ cycX c o, Sm q) ∧ Sm (inflowV (withV c (cycX c o)) o) := by
  obtain ⟨Dn, M, ha, m32, D', d0, d2, dl, hb⟩ := h.inf
  refine ⟨fun q hq => ?_, infl_sm ha m32 ⟨D', d0, d2, dl, hb⟩⟩
  have hD := Nat.lt_of_le_of_lt dl ha.hD
  exact (hb q hq).sm d0 (Nat.lt_of_lt_of_le hD (Nat.pow_le_pow_right (by decide) (by decide))) (Nat.lt_of_lt_of_le (mul_lt_pow ha.hM hD) (Nat.pow_le_pow_right (by decide) (by decide)))
theorem ht_nat {h : Nat} (hh : h ≤ 5) : HtOk (some (((h : Nat) : Int) : Rat)) ∧ Bd 2 5 (((h : Nat) : Int) : Rat) := by
  have b : Bd 2 5 (((h : Nat) : Int) : Rat) := by
    have := (bd_int (i := (h : Int)) (M := 5) (by omega)).wide (E := 2)
    rwa [Nat.one_mul] at this
  refine ⟨fun q hq => ?_, b⟩
  cases hq
  exact ⟨by exact_mod_cast Nat.zero_le h, b.mono (by decide)⟩
theorem ht_sum {h : Nat} {a : Rat} (hh : h ≤ 5) (ha : a ∈ addsL) : HtOk (some ((((h : Nat) : Int) : Rat) + a)) := fun q hq => by
  cases hq
  obtain ⟨h1, h2⟩ := ht_nat hh
  obtain ⟨a1, a2⟩ := adds_ok ha
  have h0 := (h1 _ rfl).1
  exact ⟨by grind, h2.add a2⟩
theorem ht_two : HtOk (some (((2 : Int)) : Rat)) := fun q hq => by
  cases hq
  exact ⟨by decide, ⟨4, by decide +kernel⟩, by decide +kernel, by decide +kernel⟩
theorem ht_none : HtOk none := fun q hq => by cases hq
theorem shaped_qd (q : Rat) : SeqAt.shaped (pyOf (qd q)) = true := rfl
theorem ok_qd (q : Rat) : okPy (qd q) = true := rfl
theorem eqv_qd (q : Rat) : PyData.eqv (pyOf (qd q)) (pyOf (qd q)) = true := by
  show PyData.eqv (.tuple [.int q.num, .int (q.den : Int)]) (.tuple [.int q.num, .int (q.den : Int)]) = true
  simp [PyData.eqv, PyData.eqvAll]
end WL
set_option Elab.async false
set_option linter.all false
set_option maxRecDepth 100000
set_option maxHeartbeats 1600000
namespace WL
open PySem PySem.Spec PyProof.Rows L2
def exV (ns : List Int) (k n e : Nat) : List Nat := (List.range e).map fun i => takeV ns (k + i) (n + 1)
theorem ex_le (ns : List Int) (k n e : Nat) : ∀ j ∈ exV ns k n e, j ≤ n := fun j hj => by
  unfold exV at hj
  obtain ⟨i, _, rfl⟩ := List.mem_map.mp hj
  have := takeV_lt ns (k + i) (m := n + 1) (by omega)
  omega
theorem ex_len (ns : List Int) (k n e : Nat) : (exV ns k n e).length = e := by unfold exV; simp
theorem wash_nD (n : Nat) (ex : List Nat) : rgD (n + 1) ++ ex.map nD = (washO n ex).map nD := by unfold washO; rw [List.map_append]; rfl
theorem init_nil (n : Nat) : (washO n []).dropLast = List.range n := by unfold washO; rw [List.append_nil, List.range_succ, List.dropLast_concat]
theorem init_mem {n : Nat} {ex : List Nat} (h : ex ≠ []) : n ∈ (washO n ex).dropLast := by
  unfold washO
  rw [List.dropLast_append_of_ne_nil h]
  exact List.mem_append_left _ (List.mem_range.mpr (by omega))
theorem cut_nD (o : List Nat) : cutD (o.map nD) none (some (-1)) = (o.dropLast).map nD := by rw [cut_init, List.map_dropLast]
theorem psums_end {v : List Rat} : atD (.lst ((psums v).map qd)) (-1) = some (qd (sumQ v)) := by
  refine atD_lst (atI_map (atI_last ?_))
  unfold psums
  rw [psums_last, List.take_length]
theorem sz_sums {v : List Rat} (h : ∃ D M, 0 < D ∧ D < 2 ^ 4300 ∧ M < 2 ^ 300000 ∧ ∀ q ∈ v, Bd D M q) (hl : v.length ≤ 7) : SmSums v ∧ Sm (sumQ v) ∧ ∀ q ∈ v, Sm q := by
  obtain ⟨D, M, d0, hD, hM, hb⟩ := h
  have e1 : D < 2 ^ 4400 := Nat.lt_of_lt_of_le hD (Nat.pow_le_pow_right (by decide) (by decide))
  have e2 : M * 7 * D < 2 ^ 400000 := Nat.lt_of_lt_of_le (mul_lt_pow (mul_lt_pow hM (show 7 < 2 ^ 3 by decide)) hD) (Nat.pow_le_pow_right (by decide) (by decide))
  have s : SmSums v := fun k => (bd_sums d0 e1 hb hl e2 k).sm d0 e1 e2
  refine ⟨s, by have := s v.length; rwa [List.take_length] at this, fun q hq => (hb q hq).sm d0 e1 (Nat.lt_of_le_of_lt (Nat.mul_le_mul_right _ (Nat.le_mul_of_pos_right _ (by decide))) e2)⟩
theorem far_sm {x : Rw} {h : Rat} {p : Nat} {up : Bool} (hs : RowSz x) (hx : RowOk x) (hh : Bd 2 8 h) (hp : p ≤ x.ar.length) : Sm (Wv x x.ar.length - bentV x h p up) :=
  (sz_sub (hs.w hx _) (bentV_sz (up := up) hs hx hh (sm_ht hh) hp)).mono (by decide) (by decide)
section
variable {P : Program} {w : World} {K : PySem.W.Frag} {mg : Str → Option Value} {base : Heap}
def seasK (ns : List Int) (k : Nat) : Nat := k + 3 + takeV ns (k + 2) 4
def RSeasR (o : O) (ds : List D) (o' : O) (r : D) : Prop := ∃ ns k ar vs ms, o = drawO ns k ∧ ds = [.tup (ar.map nD), .tup (vs.map qd), .tup (ms.map qd)] ∧ SeaIn ar vs ms ∧ DrOk ns (k + 40) ∧ o' = drawO ns (seasK ns k) ∧ r = .bl true
abbrev C__law_seas_right (P : Program) (w : World) (K : PySem.W.Frag) (mg : Str → Option Value) (base : Heap) : Prop := Fn P w K mg base "_law_seas_right" ["_law_draw", "_law_areas", "_law_volumes", "_law_more"] 12 (SpO ⟨P, w, K⟩ RSeasR) []
theorem sc__law_seas_right : FnScope ["_law_draw", "_law_areas", "_law_volumes", "_law_more", "_law_high", "_law_add", "_law_one", "_law_other", "_law_order_here", "_law_turn", "_law_mine", "_law_theirs", "_law_left", "_law_late", "_law_place", "_law_water"] ["_law_draw", "_law_areas", "_law_volumes", "_law_more"] (defScope s__law_seas_right) := ⟨rfl, rfl, rfl, by decide +kernel, rfl, by decide +kernel, by decide +kernel⟩
theorem fn__law_seas_right (T : Tx K mg) (F : Dfn K mg "_law_seas_right" s__law_seas_right []) {dvR : V} (hdR : Dfl ⟨P, w, K⟩ [.tup []] [dvR])
    (FRow : C_Row2 P w K mg base dvR) (FCoast3 : C_Coast3 P w K mg base) (FCoast2 : C_Coast2 P w K mg base) (Ftake : C__law_take P w K mg base) (Fpick : C__law_pick P w K mg base) (Fplus : C__law_plus P w K mg base) (Fminus : C__law_minus P w K mg base) (Fless : C__law_less P w K mg base) (Fover : C__law_is_over P w K mg base) (Fsums : C__law_sums P w K mg base)
    (Fafter : C_after P w K mg base) (Fcycle : C_cycle P w K mg base) (Ffar : C_far_bounds P w K mg base) (Finflow : C_inflow P w K mg base) : C__law_seas_right P w K mg base := by
  have sc := sc__law_seas_right
  refine F.fn (fun _ _ _ _ _ _ us hl => match us, hl with | [_, _, _, _], _ => rfl) fun f fd F => ?_
  refine fn_own F sc (by rintro o ds o' r ⟨_, _, _, _, _, _, rfl, _⟩; rfl) (by decide) fun cdv A outer s H l o ds o' r hr hR => ?_
  obtain ⟨ns, k, ar, vs, ms, rfl, rfl, hS, hd, rfl, rfl⟩ := hR
  have n7 := hS.n7
  have n0 := hS.pos
  -- the draws
  have h6 := takeV_lt ns k (m := 6) (by decide)
  have had := takeQ_mem (L := addsL) ns (k + 1) (by decide)
  have hdr0 : nD (takeV ns k 6) = .int (((takeV ns k 6 : Nat) : Int)) := rfl
  obtain ⟨hH, bH⟩ := ht_nat (h := takeV ns k 6) (by omega)
  have hHA := ht_sum (h := takeV ns k 6) (by omega) had
  have smH : Sm (((takeV ns k 6 : Nat) : Int) : Rat) := sm_ht (bH.mono (by decide))
  have smA : Sm (takeQ addsL ns (k + 1)) := sm_ht ((adds_ok had).2.mono (by decide))
  refine sds_cons (sd_par (d1 := nD (takeV ns k 6)) (d2 := qd (takeQ addsL ns (k + 1))) 4 5 (pad_cons (pd_callO (o' := drawO ns (k + 1)) (r := nD (takeV ns k 6)) 0 Ftake (hr.mono (by decide)) dfl_nil rfl (pad_cons pd_int pad_nil) rfl ⟨ns, k, 6, rfl, rfl, by decide, hd.le (by omega), rfl, rfl⟩) (pad_cons (pd_callO (o' := drawO ns (k + 2)) (r := qd (takeQ addsL ns (k + 1))) 0 Fpick (hr.mono (by decide)) dfl_nil rfl (pad_three _ _ _ _ _ _ _ _ _ _) rfl ⟨ns, k + 1, .lst (addsL.map qd), addsL.map qd, rfl, rfl, rfl, by decide, hd.le (by omega), rfl, pick_get ns (k + 1) (by decide)⟩) pad_nil)) ?_ sc.nd)
  generalize hg : takeQ addsL ns (k + 1) = ad at *
  generalize hh : takeV ns k 6 = hi at *
  have e3 := takeV_lt ns (k + 2) (m := 4) (by decide)
  have nid : normN [] = [] := normN_id List.Pairwise.nil
  have rowR : ∀ (v : List Rat), SeaRow ar v → ∀ dx, RRowI (cA K "Row") (.ins (cA K "Row") dx [] []) ([.tup (ar.map nD), .tup (v.map qd)] ++ [.tup []]) (.ins (cA K "Row") dx ["areas", "volumes", "locks"] [.tup (ar.map nD), .tup (v.map qd), .tup (([] : List Nat).map nD)]) .non := fun v hv dx =>
    ⟨dx, ar, v.map qd, v, .tup [], [], rfl, rfl, hv.areas, partDs_qd hv.sm, by rw [List.length_map, hv.lv], hv.nv, rfl, by decide, (fun l hl => by cases hl), (by rw [nid]), rfl⟩
  refine sds_cons (sd_par (d1 := coastD K (cst ar vs (some ((hi : Int) : Rat)) (some ((2 : Int) : Rat)))) (d2 := coastD K (cst ar ms (some (((hi : Int) : Rat) + ad)) (some ((2 : Int) : Rat)))) 6 7 (pad_cons (pd_make FCoast3 (hr.mono (by decide)) dfl_nil (pad_cons (d := rowD K ⟨ar, vs, []⟩) (pd_make FRow (hr.mono (by decide)) hdR (pad_cons (pd_var 1 rfl) (pad_cons (pd_var 2 rfl) pad_nil)) (rowR vs hS.v)) (pad_cons (pd_var 4 rfl) (pad_cons pd_int pad_nil))) (fun dx => ⟨dx, ⟨ar, vs, []⟩, .int hi, .int 2, some ((hi : Int) : Rat), some ((2 : Int) : Rat), rfl, rfl, rfl, .inr ⟨_, rfl, PartD.int _⟩, .inr ⟨_, rfl, PartD.int _⟩, hH, ht_two, rfl, rfl⟩)) (pad_cons (pd_make FCoast3 (hr.mono (by decide)) dfl_nil (pad_cons (d := rowD K ⟨ar, ms, []⟩) (pd_make FRow (hr.mono (by decide)) hdR (pad_cons (pd_var 1 rfl) (pad_cons (pd_var 3 rfl) pad_nil)) (rowR ms hS.m)) (pad_cons (d := qd (((hi : Int) : Rat) + ad)) (pd_call Fplus (hr.mono (by decide)) dfl_nil (pad_cons (d := qd ((hi : Int) : Rat)) (pd_tup (pad_cons (pd_var 4 rfl) (pad_cons pd_int pad_nil)) (lenOk rfl)) (pad_cons (pd_var 5 rfl) pad_nil)) ⟨_, _, rfl, smH, smA, rfl⟩) (pad_cons pd_int pad_nil))) (fun dx => ⟨dx, ⟨ar, ms, []⟩, qd (((hi : Int) : Rat) + ad), .int 2, some (((hi : Int) : Rat) + ad), some ((2 : Int) : Rat), rfl, rfl, rfl, optP_optD hHA, .inr ⟨_, rfl, PartD.int _⟩, hHA, ht_two, rfl, rfl⟩)) pad_nil)) ?_ sc.nd)
  refine sds_cons (sd_asgL (o := .lst ((washO ar.length (exV ns (k + 3) ar.length (takeV ns (k + 2) 4))).map nD)) (ρ1 := [.own l (drawO ns (k + 3 + takeV ns (k + 2) 4)), .d (.tup (ar.map nD)), .d (.tup (vs.map qd)), .d (.tup (ms.map qd)), .d (nD hi), .d (qd ad), .d (coastD K (cst ar vs (some ((hi : Int) : Rat)) (some ((2 : Int) : Rat)))), .d (coastD K (cst ar ms (some (((hi : Int) : Rat) + ad)) (some ((2 : Int) : Rat)))), .no, .no, .no, .no, .no, .no, .no, .no]) 8 (PL.is (pl_cat (PL.lst (pl_listR (n := ar.length + 1) T.list T.range (PD.is (pd_add (pd_len T.len (pd_var 1 rfl) rfl) pd_int) (by show D.int _ = D.int _; rw [List.length_map]; rfl)) (by omega))) (PL.lst (pl_lc (own := [("_law_turn", 9)]) (lcr_st (fun i => [.own l (drawO ns (k + 3 + i)), .d (.tup (ar.map nD)), .d (.tup (vs.map qd)), .d (.tup (ms.map qd)), .d (nD hi), .d (qd ad), .d (coastD K (cst ar vs (some ((hi : Int) : Rat)) (some ((2 : Int) : Rat)))), .d (coastD K (cst ar ms (some (((hi : Int) : Rat) + ad)) (some ((2 : Int) : Rat)))), .no, .no, .no, .no, .no, .no, .no, .no]) ((exV ns (k + 3) ar.length (takeV ns (k + 2) 4)).map nD) (src_range1 T.range (pd_callO (o' := drawO ns (k + 3)) (r := nD (takeV ns (k + 2) 4)) 0 Ftake (hr.mono (by decide)) dfl_nil rfl (pad_cons pd_int pad_nil) rfl ⟨ns, k + 2, 4, rfl, rfl, by decide, hd.le (by omega), rfl, rfl⟩) (by omega)) rfl [9] [9] (by decide) (fun _ _ => no1 rfl) ?_ ?_ (fun i d y hd' hy => ?_) ?_) sc.nd rfl)) ?_) (by rw [wash_nD])) (fun l8 => ?_) sc.nd)
  · rw [rgFrom_len, List.length_map, ex_len]; omega
  · rw [rgFrom_len]; omega
  · have hi : i < takeV ns (k + 2) 4 := by have := (List.getElem?_eq_some_iff.mp hd').1; rw [rgFrom_len] at this; omega
    rw [rgFrom_get (by omega)] at hd'
    cases hd'
    unfold exV at hy
    rw [List.getElem?_map, List.getElem?_map, List.getElem?_range hi] at hy
    cases hy
    refine ⟨_, _, fun _ _ _ _ _ => (gd_name 9 sc.nd), fun _ _ _ _ _ => (pd_callO (o' := drawO ns (k + 3 + i + 1)) (r := nD (takeV ns (k + 3 + i) (ar.length + 1))) 0 Ftake (hr.mono (by decide)) dfl_nil rfl (pad_cons (PD.is (pd_add (pd_len T.len (pd_var 1 rfl) rfl) pd_int) (by show D.int _ = nD (ar.length + 1); rw [List.length_map]; rfl)) pad_nil) rfl ⟨ns, k + 3 + i, ar.length + 1, rfl, rfl, by omega, hd.le (by omega), rfl, rfl⟩), rfl⟩
  · rw [rgFrom_len]; rfl
  · rw [List.length_map, ex_len]; unfold rgD; simp; omega
  have hel := ex_le ns (k + 3) ar.length (takeV ns (k + 2) 4)
  have hel3 : (exV ns (k + 3) ar.length (takeV ns (k + 2) 4)).length ≤ 3 := by rw [ex_len]; omega
  generalize exV ns (k + 3) ar.length (takeV ns (k + 2) 4) = ex at *
  have hfin : k + 3 + takeV ns (k + 2) 4 = seasK ns k := rfl
  rw [hfin]
  generalize seasK ns k = kF at *
  have W1 := hS.v.wash (ex := ex) hH ht_two hel hel3
  have W2 := hS.m.wash (ex := ex) hHA ht_two hel hel3
  have aft1 := hS.v.aft hH ht_two (fun k hk => W1.inC (W1.le k hk)) (W1.ord).len
  have aft2 := hS.m.aft hHA ht_two (fun k hk => W2.inC (W2.le k hk)) (W2.ord).len
  have ad0 := (adds_ok had).1
  have lfle : (some ((hi : Int) : Rat)).getD 0 ≤ (some (((hi : Int) : Rat) + ad)).getD 0 := by show ((hi : Int) : Rat) ≤ ((hi : Int) : Rat) + ad; grind
  have bel : Below ar.length ar (cst ar vs (some ((hi : Int) : Rat)) (some ((2 : Int) : Rat))) (cst ar ms (some (((hi : Int) : Rat) + ad)) (some ((2 : Int) : Rat))) := ⟨hS.v.like, hS.m.like, hS.le, lfle, Rat.le_refl⟩
  have belA := bel.after (washO ar.length ex) W1.le
  have cmo := cyc_mono W1 W2 lfle Rat.le_refl
  have fmo := flow_mono W1 W2 lfle rfl
  obtain ⟨cs1, fs1⟩ := cyc_sm W1.cyc
  obtain ⟨cs2, fs2⟩ := cyc_sm W2.cyc
  have cl2 := W2.x.1
  have al2 := (Like.after _ hS.m.like W2.le : Like ar.length ar (afterC (cst ar ms (some (((hi : Int) : Rat) + ad)) (some ((2 : Int) : Rat))) (washO ar.length ex))).len
  have sA1 := aft1.fin.2.2
  have sA2 := aft2.fin.2.2
  generalize hc1 : cst ar vs (some ((hi : Int) : Rat)) (some ((2 : Int) : Rat)) = c1 at *
  generalize hc2 : cst ar ms (some (((hi : Int) : Rat) + ad)) (some ((2 : Int) : Rat)) = c2 at *
  generalize hO : washO ar.length ex = ord at *
  refine sds_cons (sd_ifF (v := !true) (pt_not (PD.t (pd_call (r := .bl true) Fover (hr.mono (by decide)) dfl_nil (pad_cons (pd_fld (d := .tup ((afterC c2 ord).r.vo.map qd)) (pd_fld (d := rowD K (afterC c2 ord).r) (pd_call (r := coastD K (afterC c2 ord)) Fafter (hr.mono (by decide)) dfl_nil (pad_cons (pd_var 7 rfl) (pad_cons (pd_frz (o := .lst (ord.map nD)) 8 rfl) pad_nil)) ⟨c2, ord, 6, 64, rfl, aft2, rfl⟩) T.clCoast T.noCoast_row rfl) T.clRow T.noRow_volumes rfl) (pad_cons (pd_fld (d := .tup ((afterC c1 ord).r.vo.map qd)) (pd_fld (d := rowD K (afterC c1 ord).r) (pd_call (r := coastD K (afterC c1 ord)) Fafter (hr.mono (by decide)) dfl_nil (pad_cons (pd_var 6 rfl) (pad_cons (pd_var 8 rfl) pad_nil)) ⟨c1, ord, 6, 64, rfl, aft1, rfl⟩) T.clCoast T.noCoast_row rfl) T.clRow T.noRow_volumes rfl) pad_nil)) ⟨_, _, .inr rfl, sA2, sA1, by omega, by rw [over_gt belA.le]⟩))) rfl (sds_nil ?_))
  refine sds_cons (sd_par (d1 := cycleD K (cycX c1 ord) (inflowV (withV c1 (cycX c1 ord)) ord)) (d2 := cycleD K (cycX c2 ord) (inflowV (withV c2 (cycX c2 ord)) ord)) 10 11 (pad_cons (pd_call Fcycle (hr.mono (by decide)) dfl_nil (pad_cons (pd_var 6 rfl) (pad_cons (pd_var 8 rfl) pad_nil)) ⟨c1, ord, rfl, by have := W1.cyc; rwa [hO] at this, rfl⟩) (pad_cons (pd_call Fcycle (hr.mono (by decide)) dfl_nil (pad_cons (pd_var 7 rfl) (pad_cons (pd_var 8 rfl) pad_nil)) ⟨c2, ord, rfl, by have := W2.cyc; rwa [hO] at this, rfl⟩) pad_nil)) ?_ sc.nd)
  refine sds_cons (sd_ifF (v := !true || false) (pt_or2 (p := !true) (q := false) (pt_not (PD.t (pd_call (r := .bl true) Fover (hr.mono (by decide)) dfl_nil (pad_cons (pd_fld (d := .tup ((cycX c2 ord).map qd)) (pd_var 11 rfl) T.clCycle T.noCycle_volumes rfl) (pad_cons (pd_fld (d := .tup ((cycX c1 ord).map qd)) (pd_var 10 rfl) T.clCycle T.noCycle_volumes rfl) pad_nil)) ⟨_, _, .inr rfl, cs2, cs1, by omega, by rw [over_gt cmo]⟩))) (fun _ => PTD.is (PD.t (pd_call (r := .bl (decide (inflowV (withV c2 (cycX c2 ord)) ord < inflowV (withV c1 (cycX c1 ord)) ord))) Fless (hr.mono (by decide)) dfl_nil (pad_cons (pd_fld (d := qd (inflowV (withV c2 (cycX c2 ord)) ord)) (pd_var 11 rfl) T.clCycle T.noCycle_flow rfl) (pad_cons (pd_fld (d := qd (inflowV (withV c1 (cycX c1 ord)) ord)) (pd_var 10 rfl) T.clCycle T.noCycle_flow rfl) pad_nil)) ⟨_, _, rfl, fs2, fs1, rfl⟩)) (decide_eq_false (Rat.not_lt.mpr fmo)))) rfl (sds_nil ?_))
  refine sds_cons (sd_par (d1 := coastD K (cst ar vs (some ((hi : Int) : Rat)) none)) (d2 := coastD K (cst ar ms (some (((hi : Int) : Rat) + ad)) none)) 12 13 (pad_cons (pd_make FCoast2 (hr.mono (by decide)) dfl_non (pad_cons (pd_fld (d := rowD K ⟨ar, vs, []⟩) (pd_var 6 rfl) T.clCoast T.noCoast_row (by rw [← hc1]; rfl)) (pad_cons (pd_var 4 rfl) pad_nil)) (fun dx => ⟨dx, ⟨ar, vs, []⟩, .int hi, .non, some ((hi : Int) : Rat), none, rfl, rfl, rfl, .inr ⟨_, rfl, PartD.int _⟩, .inl ⟨rfl, rfl⟩, hH, ht_none, rfl, rfl⟩)) (pad_cons (pd_make FCoast2 (hr.mono (by decide)) dfl_non (pad_cons (pd_fld (d := rowD K ⟨ar, ms, []⟩) (pd_var 7 rfl) T.clCoast T.noCoast_row (by rw [← hc2]; rfl)) (pad_cons (d := qd (((hi : Int) : Rat) + ad)) (pd_call Fplus (hr.mono (by decide)) dfl_nil (pad_cons (d := qd ((hi : Int) : Rat)) (pd_tup (pad_cons (pd_var 4 rfl) (pad_cons pd_int pad_nil)) (lenOk rfl)) (pad_cons (pd_var 5 rfl) pad_nil)) ⟨_, _, rfl, smH, smA, rfl⟩) pad_nil)) (fun dx => ⟨dx, ⟨ar, ms, []⟩, qd (((hi : Int) : Rat) + ad), .non, some (((hi : Int) : Rat) + ad), none, rfl, rfl, rfl, optP_optD hHA, .inl ⟨rfl, rfl⟩, hHA, ht_none, rfl, rfl⟩)) pad_nil)) ?_ sc.nd)
  refine sds_cons (sd_for (fun p ρ => ∃ e14, ρ = [.own l (drawO ns kF), .d (.tup (ar.map nD)), .d (.tup (vs.map qd)), .d (.tup (ms.map qd)), .d (nD hi), .d (qd ad), .d (coastD K c1), .d (coastD K c2), .d (.lst (ord.map nD)), .no, .d (cycleD K (cycX c1 ord) (inflowV (withV c1 (cycX c1 ord)) ord)), .d (cycleD K (cycX c2 ord) (inflowV (withV c2 (cycX c2 ord)) ord)), .d (coastD K (cst ar vs (some ((hi : Int) : Rat)) none)), .d (coastD K (cst ar ms (some (((hi : Int) : Rat) + ad)) none)), e14, .no]) (src_range1 T.range (pd_add (pd_len T.len (pd_var 1 rfl) rfl) pd_int) (by rw [List.length_map]; omega)) ⟨_, rfl⟩ (fun p d ρ hd' hI => ?_) (fun ρ hI => ?_))
  · obtain ⟨e14, rfl⟩ := hI
    have hp : p < ar.length + 1 := by have := (List.getElem?_eq_some_iff.mp hd').1; rw [rgFrom_len, List.length_map] at this; omega
    rw [rgFrom_get (by rw [List.length_map]; omega)] at hd'
    cases hd'
    rw [Int.zero_add]
    have hpl : p ≤ ar.length := by omega
    obtain ⟨m1, m2⟩ := far_mono (h := ((hi : Int) : Rat)) (h' := ((hi : Int) : Rat) + ad) (p := p) hS.v.ok hS.m.ok rfl hS.le lfle hpl
    have q1 := fun up => far_sm (up := up) (p := p) hS.v.sz hS.v.ok (hH _ rfl).2 hpl
    have q2 := fun up => far_sm (up := up) (p := p) hS.m.sz hS.m.ok (hHA _ rfl).2 hpl
    refine ⟨_, _, (gd_name 14 sc.nd), ?_⟩
    refine sds_one (sd_ifF (v := !true) (pt_not (PD.t (pd_call (r := .bl true) Fover (hr.mono (by decide)) dfl_nil (pad_cons (pd_call (r := farD ⟨ar, ms, []⟩ (((hi : Int) : Rat) + ad) p) Ffar (hr.mono (by decide)) dfl_nil (pad_cons (pd_var 13 rfl) (pad_cons (pd_var 14 rfl) pad_nil)) ⟨_, _, p, rfl, hS.m.coast hHA ht_none, hS.m.sz, rfl, rfl, hpl, rfl⟩) (pad_cons (pd_call (r := farD ⟨ar, vs, []⟩ ((hi : Int) : Rat) p) Ffar (hr.mono (by decide)) dfl_nil (pad_cons (pd_var 12 rfl) (pad_cons (pd_var 14 rfl) pad_nil)) ⟨_, _, p, rfl, hS.v.coast hH ht_none, hS.v.sz, rfl, rfl, hpl, rfl⟩) pad_nil)) ⟨[_, _], [_, _], .inr rfl, fun q hq => ?_, fun q hq => ?_, by show 2 ≤ 1000; decide, ?_⟩))) rfl (sds_nil ⟨_, rfl⟩))
    · rcases List.mem_cons.mp hq with rfl | hq
      · exact q2 true
      · rw [List.mem_singleton.mp hq]; exact q2 false
    · rcases List.mem_cons.mp hq with rfl | hq
      · exact q1 true
      · rw [List.mem_singleton.mp hq]; exact q1 false
    · rw [over_true fun i a b ha hb => ?_]
      match i, ha, hb with
      | 0, ha, hb => cases ha; cases hb; exact m1
      | 1, ha, hb => cases ha; cases hb; exact m2
  · obtain ⟨e14, rfl⟩ := hI
    have hcut := cut_nD ord
    have hmem : ∀ j : Nat, ((j : Int) ∈ (ord.dropLast).map Int.ofNat) ↔ j ∈ ord.dropLast := fun j => mem_ofNat
    by_cases hex : ex = []
    · have hdl : ord.dropLast = List.range ar.length := by rw [← hO, hex]; exact init_nil _
      rw [hdl] at hcut hmem
      have nin : ar.length ∉ List.range ar.length := fun z => by have := List.mem_range.mp z; omega
      have inl : ∀ j ∈ List.range ar.length, InC (cst ar vs (some ((hi : Int) : Rat)) none) j := fun j hj => by
        have hj := List.mem_range.mp hj
        by_cases j0 : j = 0
        · exact .inl ⟨j0, rfl⟩
        · exact .inr (.inr ⟨by omega, hj⟩)
      have aftL := hS.v.aft hH ht_none inl (by rw [List.length_range]; omega)
      have lenL : (afterC (cst ar vs (some ((hi : Int) : Rat)) none) (List.range ar.length)).r.vo.length = ar.length := (Like.after _ (hS.v.like : Like ar.length ar (cst ar vs (some ((hi : Int) : Rat)) none)) (fun j hj => by have := List.mem_range.mp hj; omega)).len
      have szL : ∃ D M, 0 < D ∧ D < 2 ^ 4300 ∧ M < 2 ^ 300000 ∧ ∀ q ∈ (afterC (cst ar vs (some ((hi : Int) : Rat)) none) (List.range ar.length)).r.vo, Bd D M q := by
        obtain ⟨D', M', d0, _, d2, m2, _, hb⟩ := aftL.fin.2.1
        have c1 : cntI ar.length (List.range ar.length) ≤ 7 := Nat.le_trans (List.length_filter_le _ _) (by rw [List.length_range]; exact n7)
        refine ⟨D', M', d0, Nat.lt_of_le_of_lt (Nat.le_trans d2 (Nat.mul_le_mul_left 6 (Nat.pow_le_pow_right (by decide) c1))) (Nat.lt_of_lt_of_le (show 6 * 8 ^ 7 < 2 ^ 30 by decide) (Nat.pow_le_pow_right (by decide) (by decide))), Nat.lt_of_le_of_lt (Nat.le_trans m2 (Nat.mul_le_mul_left 64 (Nat.pow_le_pow_right (by decide) (show (List.range ar.length).length ≤ 7 by rw [List.length_range]; exact n7)))) (Nat.lt_of_lt_of_le (show 64 * 6 ^ 7 < 2 ^ 30 by decide) (Nat.pow_le_pow_right (by decide) (by decide))), hb⟩
      obtain ⟨sL1, sL2, sL3⟩ := sz_sums szL (by omega)
      obtain ⟨sV1, sV2, sV3⟩ := sz_sums (v := vs) ⟨6, 64, by decide, Nat.lt_of_lt_of_le (show 6 < 2 ^ 3 by decide) (Nat.pow_le_pow_right (by decide) (by decide)), Nat.lt_of_lt_of_le (show 64 < 2 ^ 7 by decide) (Nat.pow_le_pow_right (by decide) (by decide)), hS.bv⟩ (by rw [hS.lv]; exact n7)
      have hin := in_sum (hS.v.like : Like ar.length ar (cst ar vs (some ((hi : Int) : Rat)) none)) (o := List.range ar.length) (fun j hj => by have := List.mem_range.mp hj; omega) nin
      have hin' : sumQ (afterC (cst ar vs (some ((hi : Int) : Rat)) none) (List.range ar.length)).r.vo - sumQ vs = inflowV (cst ar vs (some ((hi : Int) : Rat)) none) (List.range ar.length) := hin
      refine sds_cons (sd_asg (d := qd (sumQ (afterC (cst ar vs (some ((hi : Int) : Rat)) none) (List.range ar.length)).r.vo)) 15 (pd_ifexp (p := true) (PTD.is (pt_notInS (i := (ar.length : Nat)) (is := (List.range ar.length).map Int.ofNat) (PD.is (pd_len T.len (pd_var 1 rfl) rfl) (by rw [List.length_map])) (PL.lst (pl_cut (pd_var 8 rfl) pod_none (pod_some (pd_neg pd_int)))) (by rw [hcut, ← nD_map]; rfl)) (by rw [decide_eq_false (fun z => nin ((hmem _).mp z))]; rfl)) (fun _ => pd_at (pd_call (r := .lst ((psums (afterC (cst ar vs (some ((hi : Int) : Rat)) none) (List.range ar.length)).r.vo).map qd)) Fsums (hr.mono (by decide)) dfl_nil (pad_cons (pd_fld (d := .tup ((afterC (cst ar vs (some ((hi : Int) : Rat)) none) (List.range ar.length)).r.vo.map qd)) (pd_fld (d := rowD K (afterC (cst ar vs (some ((hi : Int) : Rat)) none) (List.range ar.length)).r) (pd_call (r := coastD K (afterC (cst ar vs (some ((hi : Int) : Rat)) none) (List.range ar.length))) Fafter (hr.mono (by decide)) dfl_nil (pad_cons (pd_var 12 rfl) (pad_cons (PD.is (PL.lst (pl_cut (pd_var 8 rfl) pod_none (pod_some (pd_neg pd_int)))) (by rw [hcut])) pad_nil)) ⟨_, List.range ar.length, 6, 64, rfl, aftL, rfl⟩) T.clCoast T.noCoast_row rfl) T.clRow T.noRow_volumes rfl) pad_nil) ⟨_, rfl, by omega, sL3, sL1, rfl⟩) (pd_neg pd_int) psums_end) (fun z => by cases z)) ?_ sc.nd)
      refine sds_one (sd_ret (PD.is (pd_or2 (p := false) (q := true) (PD.is (pd_isN (pd_var 15 rfl)) rfl) (fun _ => pd_eqD (x := qd (inflowV (cst ar vs (some ((hi : Int) : Rat)) none) (List.range ar.length))) (y := qd (inflowV (cst ar vs (some ((hi : Int) : Rat)) none) (List.range ar.length))) hr.units (PD.is (pd_call (r := qd (sumQ (afterC (cst ar vs (some ((hi : Int) : Rat)) none) (List.range ar.length)).r.vo - sumQ vs)) Fminus (hr.mono (by decide)) dfl_nil (pad_cons (pd_var 15 rfl) (pad_cons (d := qd (sumQ vs)) (pd_at (pd_call (r := .lst ((psums vs).map qd)) Fsums (hr.mono (by decide)) dfl_nil (pad_cons (pd_var 2 rfl) pad_nil) ⟨vs, rfl, by rw [hS.lv]; omega, sV3, sV1, rfl⟩) (pd_neg pd_int) psums_end) pad_nil)) ⟨_, _, rfl, sL2, sV2, rfl⟩) (by rw [hin'])) (pd_call Finflow (hr.mono (by decide)) dfl_nil (pad_cons (pd_var 12 rfl) (pad_cons (PD.is (PL.lst (pl_cut (pd_var 8 rfl) pod_none (pod_some (pd_neg pd_int)))) (by rw [hcut])) pad_nil)) ⟨_, List.range ar.length, 6, 64, rfl, aftL, by decide, ⟨6, by decide, ⟨3, rfl⟩, Nat.le_refl _, hS.bv⟩, rfl⟩) (ok_qd _) (ok_qd _) (shaped_qd _) (shaped_qd _) (eqv_qd _))) rfl) ⟨rfl, rfl⟩)
    · have hn : ar.length ∈ ord.dropLast := by rw [← hO]; exact init_mem hex
      refine sds_cons (sd_asg (d := .non) 15 (pd_ifexp (p := false) (PTD.is (pt_notInS (i := (ar.length : Nat)) (is := (ord.dropLast).map Int.ofNat) (PD.is (pd_len T.len (pd_var 1 rfl) rfl) (by rw [List.length_map])) (PL.lst (pl_cut (pd_var 8 rfl) pod_none (pod_some (pd_neg pd_int)))) (by rw [hcut, ← nD_map]; rfl)) (by rw [decide_eq_true ((hmem _).mpr hn)]; rfl)) (fun z => by cases z) (fun _ => pd_non)) ?_ sc.nd)
      exact sds_one (sd_ret (PD.is (pd_or2 (p := true) (q := true) (PD.is (pd_isN (pd_var 15 rfl)) rfl) (fun z => by cases z)) rfl) ⟨rfl, rfl⟩)
end
end WL
set_option Elab.async false
set_option linter.all false
set_option maxRecDepth 100000
set_option maxHeartbeats 800000
set_option exponentiation.threshold 500
namespace WL
open PySem PySem.Spec PyProof.Rows L2
/-! the law: the plain facts -/
def itemsQ : List Rat := [0, 0, 1, 2, 3, 5, 8, q12, q73]
theorem item_d : ∀ j, j < 9 → ItemD (itemsD.getD j .non) (itemsQ.getD j 0)
  | 0, _ => .inl ⟨0, rfl, rfl⟩
  | 1, _ => .inl ⟨0, rfl, rfl⟩
  | 2, _ => .inl ⟨1, rfl, rfl⟩
  | 3, _ => .inl ⟨2, rfl, rfl⟩
  | 4, _ => .inl ⟨3, rfl, rfl⟩
  | 5, _ => .inl ⟨5, rfl, rfl⟩
  | 6, _ => .inl ⟨8, rfl, rfl⟩
  | 7, _ => .inr rfl
  | 8, _ => .inr rfl
  | n + 9, h => by omega
theorem item_q : ∀ q ∈ itemsQ, 0 ≤ q ∧ Bd 6 8 q := by
  have b : ∀ i : Int, i.natAbs ≤ 8 → Bd 6 8 (i : Rat) := fun i hi => by
    have := (bd_int (i := i) (M := 8) hi).wide (E := 6)
    rwa [Nat.one_mul] at this
  intro q hq
  unfold itemsQ at hq
  simp only [List.mem_cons, List.not_mem_nil, or_false] at hq
  rcases hq with rfl | rfl | rfl | rfl | rfl | rfl | rfl | rfl | rfl
  · exact ⟨by decide, b 0 (by decide)⟩
  · exact ⟨by decide, b 0 (by decide)⟩
  · exact ⟨by decide, b 1 (by decide)⟩
  · exact ⟨by decide, b 2 (by decide)⟩
  · exact ⟨by decide, b 3 (by decide)⟩
  · exact ⟨by decide, b 5 (by decide)⟩
  · exact ⟨by decide, b 8 (by decide)⟩
  · exact ⟨by decide, ⟨3, by decide +kernel⟩, by decide +kernel, by decide +kernel⟩
  · exact ⟨by decide, ⟨14, by decide +kernel⟩, by decide +kernel, by decide +kernel⟩
def toldV (ns : List Int) (k : Nat) : List Rat := (List.range (manyV ns k)).map fun i => itemsQ.getD (takeV ns (k3V ns k + i) 9) 0
theorem told_mem {ns : List Int} {k : Nat} {q : Rat} (h : q ∈ toldV ns k) : 0 ≤ q ∧ Bd 6 8 q := by
  unfold toldV at h
  obtain ⟨i, _, rfl⟩ := List.mem_map.mp h
  exact item_q _ (getD_mem (takeV_lt ns _ (by decide)))
theorem told_len (ns : List Int) (k : Nat) : (toldV ns k).length = manyV ns k := by unfold toldV; simp
theorem vols_len (ns : List Int) (k : Nat) : (volsV ns k).length = manyV ns k := by unfold volsV; simp
theorem areas_len (ns : List Int) (k : Nat) : (areasV ns k).length = manyV ns k := by unfold areasV; simp
theorem told_item (ns : List Int) (k i : Nat) (d : D) (q : Rat) (hd : (volsV ns k)[i]? = some d) (hq : (toldV ns k)[i]? = some q) : ItemD d q := by
  unfold volsV at hd
  unfold toldV at hq
  rw [List.getElem?_map] at hd hq
  cases hi : (List.range (manyV ns k))[i]? with
  | none => rw [hi] at hd; cases hd
  | some j =>
    rw [hi] at hd hq
    cases hd; cases hq
    exact item_d _ (takeV_lt ns _ (by decide))
theorem areas_mem {ns : List Int} {k a : Nat} (h : a ∈ areasV ns k) : 1 ≤ a ∧ a ≤ 4 := by
  unfold areasV at h
  obtain ⟨i, _, rfl⟩ := List.mem_map.mp h
  have := takeV_lt ns (k + 2 + i) (m := 4) (by decide)
  split <;> omega
theorem locks_srt (ns : List Int) (k4 : Nat) : ∀ j, (locksTo ns k4 j).Pairwise (· < ·) := fun j => by
  unfold locksTo
  rw [List.pairwise_map]
  refine List.Pairwise.imp (R := (· < ·)) (fun {a b} h => by omega) ?_
  exact List.Pairwise.filter _ List.pairwise_lt_range
theorem locks_mem {ns : List Int} {k4 j l : Nat} (h : l ∈ locksTo ns k4 j) : 1 ≤ l ∧ l ≤ j := by
  unfold locksTo at h
  obtain ⟨i, hi, rfl⟩ := List.mem_map.mp h
  have := List.mem_range.mp (List.mem_filter.mp hi).1
  omega
theorem locks_len (ns : List Int) (k4 j : Nat) : (locksTo ns k4 j).length ≤ j := by
  unfold locksTo
  rw [List.length_map]
  exact Nat.le_trans (List.length_filter_le _ _) (by simp)
/-- the rows of the law -/
structure LRow (ar : List Nat) (v : List Rat) (lk : List Nat) : Prop where
  n0 : 1 ≤ ar.length
  n7 : ar.length ≤ 7
  a4 : ∀ a ∈ ar, 1 ≤ a ∧ a ≤ 4
  lv : v.length = ar.length
  nv : ∀ q ∈ v, 0 ≤ q
  bv : ∃ D', 0 < D' ∧ D' ≤ 200 ∧ ∀ q ∈ v, Bd D' 300 q
  srt : lk.Pairwise (· < ·)
  lkr : ∀ l ∈ lk, 1 ≤ l ∧ l < ar.length
  ll : lk.length ≤ 7
theorem LRow.ok {ar : List Nat} {v : List Rat} {lk : List Nat} (h : LRow ar v lk) : RowOk ⟨ar, v, lk⟩ := ⟨h.n0, by have := h.n7; show ar.length ≤ 24; omega, fun a ha => by have := h.a4 a ha; exact ⟨this.1, by omega⟩, h.lv, h.nv, h.srt, h.lkr⟩
theorem LRow.szr {ar : List Nat} {v : List Rat} {lk : List Nat} (h : LRow ar v lk) : SzR 200 300 v := by
  obtain ⟨D', d0, d1, hb⟩ := h.bv
  exact ⟨D', 300, d0, d1, Nat.le_refl _, hb⟩
theorem p300 {a : Nat} (h : a ≤ 2 ^ 20) : a < 2 ^ 300 := Nat.lt_of_le_of_lt h (Nat.pow_lt_pow_right (by decide) (by decide))
theorem p100 {a : Nat} (h : a ≤ 2 ^ 20) : a < 2 ^ 100 := Nat.lt_of_le_of_lt h (Nat.pow_lt_pow_right (by decide) (by decide))
theorem LRow.sz {ar : List Nat} {v : List Rat} {lk : List Nat} (h : LRow ar v lk) : RowSz ⟨ar, v, lk⟩ := SzR.row (x := ⟨ar, v, lk⟩) h.szr (p300 (by decide)) (p300 (by decide))
theorem LRow.ord {ar : List Nat} {v : List Rat} {lk : List Nat} {o : List Nat} (h : LRow ar v lk) (ho : ∀ k ∈ o, k ∈ weirsOf ⟨ar, v, lk⟩) (hl : o.length ≤ 15) : OrdOk ⟨ar, v, lk⟩ o 200 300 := ⟨h.ok, ho, hl, h.szr, p100 (by decide), p100 (by decide)⟩
theorem LRow.pou {ar : List Nat} {v : List Rat} {lk : List Nat} {ps : List (Nat × Rat)} (h : LRow ar v lk) (ho : ∀ q ∈ ps, q.1 ∈ weirsOf ⟨ar, v, lk⟩ ∧ 0 ≤ q.2 ∧ q.2 ≤ 1 ∧ Bd 15 1 q.2) (hl : ps.length ≤ 15) : PouOk ⟨ar, v, lk⟩ ps 200 300 := ⟨h.ok, ho, hl, h.szr, p100 (by decide), p100 (by decide)⟩
/-- rows whose sums are small enough to be told -/
structure SumOk (v : List Rat) : Prop where
  len : v.length ≤ 1000
  sm : ∀ q ∈ v, Sm q
  ss : SmSums v
theorem SumOk.ps {v : List Rat} (h : SumOk v) : ∀ q ∈ psums v, Sm q := fun q hq => by
  unfold psums at hq
  obtain ⟨k, _, rfl⟩ := List.mem_map.mp hq
  exact h.ss k
theorem sumOk_row {x : Rw} (h : RowOk x) (s : RowSz x) : SumOk x.vo := ⟨by rw [h.len]; have := h.most; omega, s.q, s.sums h⟩
theorem sumOk_behind {x : Rw} {o : List Nat} (h : OrdOk x o 200 300) (hl : o.length ≤ 8) : SumOk (behindV x.ar x.vo o) := by
  obtain ⟨h1, h2⟩ := behind_step h o.length (Nat.le_refl _)
  rw [List.take_length] at h1 h2
  have e1 : 200 * 2000 ^ o.length < 2 ^ 300 := Nat.lt_of_le_of_lt (Nat.mul_le_mul_left 200 (Nat.pow_le_pow_right (by decide) hl)) (by decide)
  have e2 : 300 * 6 ^ o.length < 2 ^ 300 := Nat.lt_of_le_of_lt (Nat.mul_le_mul_left 300 (Nat.pow_le_pow_right (by decide) hl)) (by decide)
  exact sumOk_row h1 (SzR.row (x := { x with vo := behindV x.ar x.vo o }) h2 e1 e2)
theorem sumOk_poured {x : Rw} {ps : List (Nat × Rat)} (h : PouOk x ps 200 300) (hl : ps.length ≤ 8) : SumOk (pouredV x.ar x.vo ps) := by
  obtain ⟨h1, h2⟩ := pou_step h ps.length (Nat.le_refl _)
  rw [List.take_length] at h1 h2
  have e1 : 200 * 30000 ^ ps.length < 2 ^ 300 := Nat.lt_of_le_of_lt (Nat.mul_le_mul_left 200 (Nat.pow_le_pow_right (by decide) hl)) (by decide)
  have e2 : 300 * 6 ^ ps.length < 2 ^ 300 := Nat.lt_of_le_of_lt (Nat.mul_le_mul_left 300 (Nat.pow_le_pow_right (by decide) hl)) (by decide)
  exact sumOk_row h1 (SzR.row (x := { x with vo := pouredV x.ar x.vo ps }) h2 e1 e2)
theorem sumOk_limit {x : Rw} {o : List Nat} (hx : RowOk x) (hs : RowSz x) : SumOk (limitV x o) := by
  have hl := limitV_len (o := o) hx
  have he := runs_end x.ar.length o hx.pos
  obtain ⟨h1, _⟩ := lim_at hx o x.ar.length (Nat.le_refl _)
  have key : ∀ j, j ≤ x.ar.length → Sm (Pw (limitV x o) j) := fun j hj => by
    obtain ⟨f, l, q1, q2, q3, q4, q5⟩ := h1 j (by rw [he]; exact hj)
    have e := q5 x.vo hx.len
    have e2 : Pw (limitV x o) j = lineV x f l j := by rw [line_ln]; exact e
    rw [e2]
    exact (line_ok hs hx q1 q4).line.mono (by decide) (by decide)
  refine ⟨by rw [hl]; have := hx.most; omega, fun q hq => (run_mem hx hs q hq).1.mono (by decide) (by decide), fun k => ?_⟩
  show Sm (Pw (limitV x o) k)
  by_cases hk : k ≤ x.ar.length
  · exact key k hk
  · rw [pw_all (by rw [hl]; omega), hl]; exact key _ (Nat.le_refl _)
theorem psums_at {v : List Rat} {i : Nat} {a : Rat} (h : (psums v)[i]? = some a) : a = Pw v i := by
  have hi := (List.getElem?_eq_some_iff.mp h).1
  rw [psums_len] at hi
  rw [psums_get (by omega)] at h
  cases h; rfl
theorem over_dom {v w : List Rat} (h : Dom v w) : overB (psums w) (psums v) = true := over_true fun i a b ha hb => by
  rw [psums_at ha, psums_at hb]; exact h i
theorem edge_sm {x : Rw} {p : Nat} (up : Bool) (hs : RowSz x) (hx : RowOk x) (hp : p ≤ x.ar.length) : Sm (edgeV x p up) := by
  obtain ⟨e1, e2, e3, e4, _⟩ := edge_spec up hx hp
  exact (line_ok hs hx e3 e4).line.mono (by decide) (by decide)
theorem best_sm_all {x : Rw} {p m : Nat} (hs : RowSz x) (hx : RowOk x) (n7 : x.ar.length ≤ 7) (hm : m ≤ 3) : Sm (bestOf x p m).1 := by
  have ly := lySt_ok (p := p) (W := 24) (wrs := weirsOf x) (ar := x.ar) (n := x.ar.length) hx.ar rfl (fun k hk => ⟨(mem_weirs.mp hk).1, (mem_weirs.mp hk).2.1⟩) (by
    unfold weirsOf
    refine Nat.le_trans (List.length_filter_le _ _) ?_
    rw [List.length_map, List.length_range]; omega) (by decide) m (by omega)
  unfold bestOf
  refine foldl_inv (S := fun s : Rat × List Nat => Sm s.1) _ _ ((hs.w hx p).mono (by decide) (by decide)) fun b l hl hb => ?_
  refine foldl_inv (S := fun s : Rat × List Nat => Sm s.1) _ _ hb fun c q hq hc => ?_
  exact best_sm hc (worth_ok hs ((ly.each l (List.mem_of_mem_drop hl)).2 q hq).1 (by omega) hx).2.2
def partsQ : List Rat := [0, 1, q13, q25]
def partsD : List D := [.int 0, .int 1, .tup [.int 1, .int 3], .tup [.int 2, .int 5]]
theorem part_d : ∀ j, j < 4 → PartD (partsD.getD j .non) (partsQ.getD j 0)
  | 0, _ => PartD.int 0
  | 1, _ => PartD.int 1
  | 2, _ => partD_qd (q := q13) (Nat.lt_of_lt_of_le (show 3 < 2 ^ 2 by decide) (Nat.pow_le_pow_right (by decide) (by decide)))
  | 3, _ => partD_qd (q := q25) (Nat.lt_of_lt_of_le (show 5 < 2 ^ 3 by decide) (Nat.pow_le_pow_right (by decide) (by decide)))
  | n + 4, h => by omega
theorem part_q : ∀ q ∈ partsQ, 0 ≤ q ∧ q ≤ 1 ∧ Bd 15 1 q := by
  intro q hq
  unfold partsQ at hq
  simp only [List.mem_cons, List.not_mem_nil, or_false] at hq
  rcases hq with rfl | rfl | rfl | rfl
  · exact ⟨by decide, by decide, ⟨0, by decide +kernel⟩, by decide +kernel, by decide +kernel⟩
  · exact ⟨by decide, by decide, ⟨15, by decide +kernel⟩, by decide +kernel, by decide +kernel⟩
  · exact ⟨by decide, by decide, ⟨5, by decide +kernel⟩, by decide +kernel, by decide +kernel⟩
  · exact ⟨by decide, by decide, ⟨6, by decide +kernel⟩, by decide +kernel, by decide +kernel⟩
theorem order_mem {ns : List Int} {k : Nat} {ws : List Nat} {m j : Nat} (h : j ∈ orderV ns k ws m) : j ∈ ws := by
  unfold orderV at h
  by_cases he : ws = []
  · rw [if_pos he] at h; cases h
  · rw [if_neg he] at h
    obtain ⟨i, _, rfl⟩ := List.mem_map.mp h
    exact getD_mem (takeV_lt ns _ (List.length_pos_iff.mpr he))
theorem order_len (ns : List Int) (k : Nat) (ws : List Nat) (m : Nat) : (orderV ns k ws m).length ≤ m := by
  unfold orderV
  split
  · exact Nat.zero_le _
  · simp
def partL (ns : List Int) (k : Nat) (o : List Nat) : List (Nat × Rat) := (List.range o.length).map fun i => (o.getD i 0, partsQ.getD (takeV ns (k + i) 4) 0)
def partDL (ns : List Int) (k : Nat) (o : List Nat) : List D := (List.range o.length).map fun i => .tup [nD (o.getD i 0), partsD.getD (takeV ns (k + i) 4) .non]
def moreL : List Rat := [0, q12, 4]
theorem more_ok {q : Rat} (h : q ∈ moreL) : 0 ≤ q ∧ Bd 6 4 q := by
  unfold moreL at h
  simp only [List.mem_cons, List.not_mem_nil, or_false] at h
  rcases h with rfl | rfl | rfl
  · exact ⟨by decide, ⟨0, by decide +kernel⟩, by decide +kernel, by decide +kernel⟩
  · exact ⟨by decide, ⟨3, by decide +kernel⟩, by decide +kernel, by decide +kernel⟩
  · exact ⟨by decide, ⟨24, by decide +kernel⟩, by decide +kernel, by decide +kernel⟩
def moreV (ns : List Int) (k : Nat) (v : List Rat) : List Rat := (List.range v.length).map fun i => v.getD i 0 + takeQ moreL ns (k + i)
theorem pad_parts {X : Cx} {ρ : List E} (p1 p2 p3 p4 p5 p6 p7 p8 p9 : Pos) : PAD X ρ [.List [.Constant (.int 0) 0 p1, .Constant (.int 1) 0 p2, .Tuple [.Constant (.int 1) 0 p3, .Constant (.int 3) 0 p4] 0 p5, .Tuple [.Constant (.int 2) 0 p6, .Constant (.int 5) 0 p7] 0 p8] p9] ρ [.lst partsD] :=
  pad_list1 (pad_cons pd_int (pad_cons pd_int (pad_cons (pd_two p3 p4 p5) (pad_cons (pd_two p6 p7 p8) pad_nil star_tup) star_tup) star_con) star_con) (lenOk rfl)
end WL
set_option Elab.async false
set_option linter.all false
set_option maxRecDepth 100000
set_option maxHeartbeats 16000000
namespace WL
open PySem PySem.Spec PyProof.Rows L2
section
variable {P : Program} {w : World} {K : PySem.W.Frag} {mg : Str → Option Value} {base : Heap}
def RLaw (ds : List D) (r : D) : Prop := ∃ ns, ds = [.scr ns] ∧ ns.length ≤ 63 ∧ r = .bl true
abbrev C_law (P : Program) (w : World) (K : PySem.W.Frag) (mg : Str → Option Value) (base : Heap) : Prop := Fn P w K mg base "law" ["_law_script"] 13 (SpP ⟨P, w, K⟩ RLaw) []
theorem sc_law : FnScope ["_law_script", "_law_draw", "_law_areas", "_law_volumes", "_law_locks", "_law_told", "_law_early", "_law_one", "_law_other", "_law_many", "_law_order_here", "_law_parts", "_law_weir", "_law_place", "_law_number_here", "_law_choices", "_law_most", "_law_mine", "_law_theirs", "_law_more", "_law_volume"] ["_law_script"] (defScope s_law) := ⟨rfl, rfl, rfl, by decide +kernel, rfl, by decide +kernel, by decide +kernel⟩
theorem ok_law (T : Tx K mg) {f : Addr} {fd : FuncData} (F : FunD K "law" "law" (defArgs s_law) (defBody s_law) (defScope s_law) [] [] f fd)
    (FRow : C_Row3 P w K mg base) (Mweirs : M_weirs P w K mg base) (Msums : M_sums P w K mg base) (Fdrawn : C__law_drawn P w K mg base) (Fparts : C__law_parts_of P w K mg base) (Ftaken : C__law_taken P w K mg base) (Forder : C__law_order P w K mg base) (Ftake : C__law_take P w K mg base) (Fpick : C__law_pick P w K mg base) (Fplus : C__law_plus P w K mg base) (Fover : C__law_is_over P w K mg base)
    (Fbehind : C_behind P w K mg base) (Fpoured : C_poured P w K mg base) (Flimit : C_limit P w K mg base) (Fhighest : C_highest P w K mg base) (Flowest : C_lowest P w K mg base) (Fbest : C_best P w K mg base) (Fguards : C_guards P w K mg base) (Fseas : C__law_seas_right P w K mg base) : FnOk P w K mg base CX0 13 f fd ["_law_script"] (SpP ⟨P, w, K⟩ RLaw) := by
  have sc := sc_law
  refine fn_pure F sc (by rintro ds r ⟨_, rfl, _⟩; rfl) (by decide) fun cdv A outer s H ds r hr hR => ?_
  obtain ⟨ns, rfl, hl63, rfl⟩ := hR
  have hD : ∀ j, j ≤ 300 → DrOk ns j := fun j hj => ⟨Nat.lt_of_le_of_lt hl63 (by decide), Nat.lt_of_le_of_lt hj (by decide)⟩
  change SDs _ [.d (.scr ns), .no, .no, .no, .no, .no, .no, .no, .no, .no, .no, .no, .no, .no, .no, .no, .no, .no, .no, .no, .no] _ _
  refine sds_cons (sd_asgL (o := drawO ns 0) 1 (pl_lst (pad_cons (pd_var 0 rfl) (pad_cons pd_int pad_nil)) (lenOk rfl)) (fun l => ?_) sc.nd)
  refine sds_cons (sd_asgG (d := drawnD ns 0) (pd_callO (o' := drawO ns (k5V ns 0)) (r := drawnD ns 0) 1 Fdrawn (hr.mono (by decide)) dfl_nil rfl (pad_cons pd_int pad_nil) rfl ⟨ns, 0, rfl, rfl, hD _ (by decide), rfl, rfl⟩) (gd_tup3 (gd_name 2 sc.nd) (gd_name 3 sc.nd) (gd_name 4 sc.nd)) ?_)
  have hm := manyV_le ns 0
  have h3 := k3V_le ns 0
  have h4 := k4V_eq ns 0
  have h5 : k5V ns 0 = k4V ns 0 + (manyV ns 0 - 1) := rfl
  have k5le : k5V ns 0 ≤ 30 := by omega
  have tl := told_len ns 0
  have al := areas_len ns 0
  refine sds_cons (sd_asg (d := .tup ((toldV ns 0).map qd)) 5 (pd_call Fparts (hr.mono (by decide)) dfl_nil (pad_cons (pd_var 3 rfl) pad_nil) ⟨volsV ns 0, toldV ns 0, rfl, by rw [vols_len, tl], fun i d q hd hq => told_item ns 0 i d q hd hq, by omega, rfl⟩) ?_ sc.nd)
  have tok : TkOk (manyV ns 0) 6 8 0 (toldV ns 0) := ⟨tl, fun q hq => (told_mem hq).1, 6, by decide, by decide, fun q hq => (told_mem hq).2.mono (by decide)⟩
  have t3 := takeV_lt ns (k5V ns 0) (m := 3) (by decide)
  have eok := taken_ok (ns := ns) (k := k5V ns 0 + 1) tok (by omega) (p100 (by decide)) (p100 (by decide)) (1 + takeV ns (k5V ns 0) 3) (by omega)
  have edom := taken_dom (ns := ns) (k := k5V ns 0 + 1) tok (by omega) (p100 (by decide)) (p100 (by decide)) (1 + takeV ns (k5V ns 0) 3) (by omega)
  refine sds_cons (sd_asg (d := .tup ((takenV ns (k5V ns 0 + 1) (toldV ns 0) (1 + takeV ns (k5V ns 0) 3)).map qd)) 6 (pd_callO (o' := drawO ns (k5V ns 0 + 1 + 3 * (1 + takeV ns (k5V ns 0) 3))) (r := .tup ((takenV ns (k5V ns 0 + 1) (toldV ns 0) (1 + takeV ns (k5V ns 0) 3)).map qd)) 1 Ftaken (hr.mono (by decide)) dfl_nil rfl (pad_cons (pd_var 5 rfl) pad_nil) rfl ⟨ns, k5V ns 0, toldV ns 0, manyV ns 0, 6, 8, rfl, rfl, by omega, by omega, tok, p100 (by decide), p100 (by decide), hD _ (by omega), rfl, rfl⟩) ?_ sc.nd)
  have L2 : LRow (areasV ns 0) (toldV ns 0) (locksV ns 0) := ⟨by omega, by omega, fun a ha => areas_mem ha, by omega, fun q hq => (told_mem hq).1, ⟨6, by decide, by decide, fun q hq => (told_mem hq).2.mono (by decide)⟩, locks_srt ns _ _, fun l hl => by have := locks_mem hl; omega, Nat.le_trans (locks_len ns _ _) (by omega)⟩
  have L1 : LRow (areasV ns 0) (takenV ns (k5V ns 0 + 1) (toldV ns 0) (1 + takeV ns (k5V ns 0) 3)) (locksV ns 0) := by
    refine ⟨L2.n0, L2.n7, L2.a4, by rw [eok.len]; omega, eok.nn, ?_, L2.srt, L2.lkr, L2.ll⟩
    obtain ⟨D', d0, d1, hb⟩ := eok.sz
    have p3 : 3 ^ (1 + takeV ns (k5V ns 0) 3) ≤ 3 ^ 3 := Nat.pow_le_pow_right (by decide) (by omega)
    have e27 : (3 : Nat) ^ 3 = 27 := by decide
    exact ⟨D', d0, by omega, fun q hq => (hb q hq).mono (by omega)⟩
  have told6 : ∀ q ∈ toldV ns 0, 0 ≤ q ∧ Bd 6 8 q := fun q hq => told_mem hq
  have hk6 : k5V ns 0 + 1 + 3 * (1 + takeV ns (k5V ns 0) 3) ≤ 50 := by omega
  generalize hear : takenV ns (k5V ns 0 + 1) (toldV ns 0) (1 + takeV ns (k5V ns 0) 3) = early at *
  generalize hk6' : k5V ns 0 + 1 + 3 * (1 + takeV ns (k5V ns 0) 3) = k6 at *
  generalize htold : toldV ns 0 = told at *
  generalize har : areasV ns 0 = ar at *
  generalize hlk : locksV ns 0 = lk at *
  generalize hvols : D.tup (volsV ns 0) = volsD at *
  have n0 := L1.n0
  have n7 := L1.n7
  have rowR : ∀ (v : List Rat), LRow ar v lk → ∀ dx, RRowI (cA K "Row") (.ins (cA K "Row") dx [] []) ([.tup (ar.map nD), .tup (v.map qd), .lst (lk.map nD)] ++ []) (.ins (cA K "Row") dx ["areas", "volumes", "locks"] [.tup (ar.map nD), .tup (v.map qd), .tup (lk.map nD)]) .non := fun v hv dx =>
    ⟨dx, ar, v.map qd, v, .lst (lk.map nD), lk, rfl, rfl, hv.ok.areas, partDs_qd hv.sz.q, by rw [List.length_map, hv.lv], hv.nv, rfl, by have := hv.ll; omega, hv.lkr, (by rw [normN_id hv.srt]), rfl⟩
  refine sds_cons (sd_asgG (d := .tup [rowD K ⟨ar, early, lk⟩, rowD K ⟨ar, told, lk⟩, nD ar.length]) (pd_tup (pad_cons (pd_make FRow (hr.mono (by decide)) dfl_nil (pad_cons (pd_var 2 rfl) (pad_cons (pd_var 6 rfl) (pad_cons (pd_var 4 rfl) pad_nil))) (rowR early L1)) (pad_cons (pd_make FRow (hr.mono (by decide)) dfl_nil (pad_cons (pd_var 2 rfl) (pad_cons (pd_var 5 rfl) (pad_cons (pd_var 4 rfl) pad_nil))) (rowR told L2)) (pad_cons (PD.is (pd_len T.len (pd_var 2 rfl) rfl) (by rw [List.length_map])) pad_nil))) (lenOk rfl)) (gd_tup3 (gd_name 7 sc.nd) (gd_name 8 sc.nd) (gd_name 9 sc.nd)) ?_)
  -- the order
  change SDs _ [.d (.scr ns), .own l (drawO ns k6), .d (.tup (ar.map nD)), .d volsD, .d (.lst (lk.map nD)), .d (.tup (told.map qd)), .d (.tup (early.map qd)), .d (rowD K ⟨ar, early, lk⟩), .d (rowD K ⟨ar, told, lk⟩), .d (nD ar.length), .no, .no, .no, .no, .no, .no, .no, .no, .no, .no, .no] _ _
  have R1 := L1.ok
  have R2 := L2.ok
  have z1 := L1.sz
  have z2 := L2.sz
  have t9 := takeV_lt ns k6 (m := 9) (by decide)
  have ws24 : (weirsOf ⟨ar, early, lk⟩).length ≤ 7 := by
    unfold weirsOf
    refine Nat.le_trans (List.length_filter_le _ _) ?_
    rw [List.length_map, List.length_range]; show ar.length - 1 ≤ 7; omega
  refine sds_cons (sd_asg (d := .lst ((orderV ns (k6 + 1) (weirsOf ⟨ar, early, lk⟩) (takeV ns k6 9)).map nD)) 10 (pd_callO (o := drawO ns (k6 + 1)) (o' := drawO ns (orderK (k6 + 1) (weirsOf ⟨ar, early, lk⟩) (takeV ns k6 9))) (r := .lst ((orderV ns (k6 + 1) (weirsOf ⟨ar, early, lk⟩) (takeV ns k6 9)).map nD)) 1 Forder (hr.mono (by decide)) dfl_nil rfl (pad_cons (d := .lst ((weirsOf ⟨ar, early, lk⟩).map nD)) (pd_meth0 Mweirs (hr.mono (by decide)) dfl_nil (pd_var 7 rfl) rfl ⟨⟨ar, early, lk⟩, rfl, R1.most, rfl⟩) (pad_cons (pd_callO (o' := drawO ns (k6 + 1)) (r := nD (takeV ns k6 9)) 1 Ftake (hr.mono (by decide)) dfl_nil rfl (pad_cons pd_int pad_nil) rfl ⟨ns, k6, 9, rfl, rfl, by decide, hD _ (by omega), rfl, rfl⟩) pad_nil)) rfl ⟨ns, k6 + 1, weirsOf ⟨ar, early, lk⟩, takeV ns k6 9, rfl, rfl, by omega, by omega, hD _ (by omega), rfl, rfl⟩) ?_ sc.nd)
  have omem : ∀ j ∈ orderV ns (k6 + 1) (weirsOf ⟨ar, early, lk⟩) (takeV ns k6 9), j ∈ weirsOf ⟨ar, early, lk⟩ := fun j hj => order_mem hj
  have olen := order_len ns (k6 + 1) (weirsOf ⟨ar, early, lk⟩) (takeV ns k6 9)
  have hk7 : orderK (k6 + 1) (weirsOf ⟨ar, early, lk⟩) (takeV ns k6 9) ≤ 60 := by unfold orderK; split <;> omega
  generalize orderV ns (k6 + 1) (weirsOf ⟨ar, early, lk⟩) (takeV ns k6 9) = ord at *
  generalize orderK (k6 + 1) (weirsOf ⟨ar, early, lk⟩) (takeV ns k6 9) = k7 at *
  have olen8 : ord.length ≤ 8 := by omega
  -- openings in part
  change SDs _ [.d (.scr ns), .own l (drawO ns k7), .d (.tup (ar.map nD)), .d volsD, .d (.lst (lk.map nD)), .d (.tup (told.map qd)), .d (.tup (early.map qd)), .d (rowD K ⟨ar, early, lk⟩), .d (rowD K ⟨ar, told, lk⟩), .d (nD ar.length), .d (.lst (ord.map nD)), .no, .no, .no, .no, .no, .no, .no, .no, .no, .no] _ _
  refine sds_cons (sd_asgLc (own := [("_law_weir", 12)]) (ρ1 := [.d (.scr ns), .own l (drawO ns (k7 + ord.length)), .d (.tup (ar.map nD)), .d volsD, .d (.lst (lk.map nD)), .d (.tup (told.map qd)), .d (.tup (early.map qd)), .d (rowD K ⟨ar, early, lk⟩), .d (rowD K ⟨ar, told, lk⟩), .d (nD ar.length), .d (.lst (ord.map nD)), .no, .no, .no, .no, .no, .no, .no, .no, .no, .no]) (ds := partDL ns k7 ord) 11 (lcr_st (fun i => [.d (.scr ns), .own l (drawO ns (k7 + i)), .d (.tup (ar.map nD)), .d volsD, .d (.lst (lk.map nD)), .d (.tup (told.map qd)), .d (.tup (early.map qd)), .d (rowD K ⟨ar, early, lk⟩), .d (rowD K ⟨ar, told, lk⟩), .d (nD ar.length), .d (.lst (ord.map nD)), .no, .no, .no, .no, .no, .no, .no, .no, .no, .no]) (partDL ns k7 ord) (src_list (pd_var 10 rfl)) rfl [12] [12] (by decide) (fun _ _ => no1 rfl) ?_ ?_ (fun i d y hd' hy => ?_) ?_) (fun l11 => ?_) sc.nd rfl (sw_true rfl rfl rfl (by decide +kernel)))
  · unfold partDL; simp
  · rw [List.length_map]; omega
  · have hi : i < ord.length := by have := (List.getElem?_eq_some_iff.mp hd').1; rw [List.length_map] at this; exact this
    rw [List.getElem?_map, getD_some (d := 0) hi] at hd'
    cases hd'
    unfold partDL at hy
    rw [List.getElem?_map, List.getElem?_range hi] at hy
    cases hy
    have g4 := takeV_lt ns (k7 + i) (m := 4) (by decide)
    have gp : partsD[takeV ns (k7 + i) partsD.length]? = some (partsD.getD (takeV ns (k7 + i) 4) .non) := getD_some (takeV_lt ns _ (by decide))
    refine ⟨_, _, fun _ _ _ _ _ => (gd_name 12 sc.nd), fun _ _ _ _ _ => (pd_tup (pad_cons (pd_var 12 rfl) (pad_cons (pd_callO (o' := drawO ns (k7 + i + 1)) (r := partsD.getD (takeV ns (k7 + i) 4) .non) 1 Fpick (hr.mono (by decide)) dfl_nil rfl (pad_parts _ _ _ _ _ _ _ _ _) rfl ⟨ns, k7 + i, .lst partsD, partsD, rfl, rfl, rfl, by decide, hD _ (by omega), rfl, gp⟩) pad_nil)) (lenOk rfl)), rfl⟩
  · rw [List.length_map]
  have plen : (partL ns k7 ord).length = ord.length := by unfold partL; simp
  have pdlen : (partDL ns k7 ord).length = (partL ns k7 ord).length := by unfold partL partDL; simp
  have pget : ∀ (i : Nat) d q, (partDL ns k7 ord)[i]? = some d → (partL ns k7 ord)[i]? = some q → ∃ d', d = .tup [nD q.1, d'] ∧ PartD d' q.2 := fun i d q hd hq => by
    have hi : i < ord.length := by have := (List.getElem?_eq_some_iff.mp hq).1; omega
    unfold partDL at hd
    unfold partL at hq
    rw [List.getElem?_map, List.getElem?_range hi] at hd hq
    cases hd; cases hq
    exact ⟨_, rfl, part_d _ (takeV_lt ns _ (by decide))⟩
  have pmem : ∀ q ∈ partL ns k7 ord, q.1 ∈ weirsOf ⟨ar, early, lk⟩ ∧ 0 ≤ q.2 ∧ q.2 ≤ 1 ∧ Bd 15 1 q.2 := fun q hq => by
    unfold partL at hq
    obtain ⟨i, hi, rfl⟩ := List.mem_map.mp hq
    have hi := List.mem_range.mp hi
    exact ⟨omem _ (getD_mem hi), part_q _ (getD_mem (takeV_lt ns _ (by decide)))⟩
  generalize partL ns k7 ord = pl at *
  generalize partDL ns k7 ord = pdl at *
  have ha1 : ∀ a ∈ ar, 1 ≤ a := fun a ha => (L1.a4 a ha).1
  have lE := L1.lv
  have lT := L2.lv
  have o12 : ∀ j ∈ ord, j ∈ weirsOf ⟨ar, told, lk⟩ := fun j hj => omem j hj
  have orng : ∀ j ∈ ord, 1 ≤ j ∧ j < ar.length := fun j hj => ⟨(mem_weirs.mp (omem j hj)).1, (mem_weirs.mp (omem j hj)).2.1⟩
  have ok1 := L1.ord omem (show ord.length ≤ 15 by omega)
  have ok2 := L2.ord o12 (show ord.length ≤ 15 by omega)
  have po1 := L1.pou pmem (show pl.length ≤ 15 by omega)
  have po2 := L2.pou (lk := lk) (ps := pl) pmem (show pl.length ≤ 15 by omega)
  have s1 : SumOk early := sumOk_row R1 z1
  have s2 : SumOk told := sumOk_row R2 z2
  have sb1 : SumOk (behindV ar early ord) := sumOk_behind (x := ⟨ar, early, lk⟩) ok1 olen8
  have sb2 : SumOk (behindV ar told ord) := sumOk_behind (x := ⟨ar, told, lk⟩) ok2 olen8
  have sp1 : SumOk (pouredV ar early pl) := sumOk_poured (x := ⟨ar, early, lk⟩) po1 (by omega)
  have sp2 : SumOk (pouredV ar told pl) := sumOk_poured (x := ⟨ar, told, lk⟩) po2 (by omega)
  have sl1 : SumOk (limitV ⟨ar, early, lk⟩ ord) := sumOk_limit R1 z1
  have sl2 : SumOk (limitV ⟨ar, told, lk⟩ ord) := sumOk_limit R2 z2
  have dB : Dom (behindV ar told ord) (behindV ar early ord) := dom_behind ha1 ord told early edom lT lE orng
  have dP : Dom (pouredV ar told pl) (pouredV ar early pl) := dom_poured ha1 pl told early edom lT lE fun q hq => ⟨(mem_weirs.mp (pmem q hq).1).1, (mem_weirs.mp (pmem q hq).1).2.1, (pmem q hq).2.1, (pmem q hq).2.2.1⟩
  have dL : Dom (limitV ⟨ar, told, lk⟩ ord) (limitV ⟨ar, early, lk⟩ ord) := dom_limit R1 ord lT lE edom
  have pl8 : ∀ {v : List Rat}, SumOk v → (psums v).length ≤ 1001 := fun {v} h => by rw [psums_len]; have := h.len; omega
  have ln : ∀ {v : List Rat}, v.length ≤ 999 → (psums v).length ≤ 1000 := fun {v} h => by rw [psums_len]; omega
  have lnE : (psums early).length ≤ 1000 := ln (by omega)
  have lnB : (psums (behindV ar early ord)).length ≤ 1000 := ln (by
    obtain ⟨q, _⟩ := behind_step ok1 ord.length (Nat.le_refl _)
    rw [List.take_length] at q
    have := q.len
    have : (behindV ar early ord).length = ar.length := this
    omega)
  have lnP : (psums (pouredV ar early pl)).length ≤ 1000 := ln (by
    obtain ⟨q, _⟩ := pou_step po1 pl.length (Nat.le_refl _)
    rw [List.take_length] at q
    have := q.len
    have : (pouredV ar early pl).length = ar.length := this
    omega)
  have lnL : (psums (limitV ⟨ar, early, lk⟩ ord)).length ≤ 1000 := ln (by
    have := limitV_len (o := ord) R1
    have : (limitV ⟨ar, early, lk⟩ ord).length = ar.length := this
    omega)
  refine sds_cons (sd_ifF (v := !true || !true) (pt_or2 (p := !true) (q := !true) (pt_not (PD.t (pd_call (r := .bl true) Fover (hr.mono (by decide)) dfl_nil (pad_cons (d := .lst ((psums (early)).map qd)) (pd_meth0 Msums (hr.mono (by decide)) dfl_nil (pd_var 7 rfl) rfl ⟨⟨ar, early, lk⟩, rfl, s1.len, s1.sm, s1.ss, rfl⟩) (pad_cons (d := .lst ((psums (told)).map qd)) (pd_meth0 Msums (hr.mono (by decide)) dfl_nil (pd_var 8 rfl) rfl ⟨⟨ar, told, lk⟩, rfl, s2.len, s2.sm, s2.ss, rfl⟩) pad_nil)) ⟨_, _, .inl rfl, s1.ps, s2.ps, lnE, by rw [over_dom (edom)]⟩))) (fun _ => (pt_not (PD.t (pd_call (r := .bl true) Fover (hr.mono (by decide)) dfl_nil (pad_cons (d := .lst ((psums (behindV ar early ord)).map qd)) (pd_meth0 Msums (hr.mono (by decide)) dfl_nil (pd_call (r := rowD K ⟨ar, behindV ar early ord, lk⟩) Fbehind (hr.mono (by decide)) dfl_nil (pad_cons (pd_var 7 rfl) (pad_cons (pd_var 10 rfl) pad_nil)) ⟨⟨ar, early, lk⟩, ord, 200, 300, rfl, ok1, rfl⟩) rfl ⟨⟨ar, behindV ar early ord, lk⟩, rfl, sb1.len, sb1.sm, sb1.ss, rfl⟩) (pad_cons (d := .lst ((psums (behindV ar told ord)).map qd)) (pd_meth0 Msums (hr.mono (by decide)) dfl_nil (pd_call (r := rowD K ⟨ar, behindV ar told ord, lk⟩) Fbehind (hr.mono (by decide)) dfl_nil (pad_cons (pd_var 8 rfl) (pad_cons (pd_var 10 rfl) pad_nil)) ⟨⟨ar, told, lk⟩, ord, 200, 300, rfl, ok2, rfl⟩) rfl ⟨⟨ar, behindV ar told ord, lk⟩, rfl, sb2.len, sb2.sm, sb2.ss, rfl⟩) pad_nil)) ⟨_, _, .inl rfl, sb1.ps, sb2.ps, lnB, by rw [over_dom (dB)]⟩))))) rfl (sds_nil ?_))
  refine sds_cons (sd_ifF (v := !true || !true) (pt_or2 (p := !true) (q := !true) (pt_not (PD.t (pd_call (r := .bl true) Fover (hr.mono (by decide)) dfl_nil (pad_cons (d := .lst ((psums (pouredV ar early pl)).map qd)) (pd_meth0 Msums (hr.mono (by decide)) dfl_nil (pd_call (r := rowD K ⟨ar, pouredV ar early pl, lk⟩) Fpoured (hr.mono (by decide)) dfl_nil (pad_cons (pd_var 7 rfl) (pad_cons (pd_frz (o := .lst pdl) 11 rfl) pad_nil)) ⟨⟨ar, early, lk⟩, pl, pdl, 200, 300, rfl, pdlen, pget, po1, rfl⟩) rfl ⟨⟨ar, pouredV ar early pl, lk⟩, rfl, sp1.len, sp1.sm, sp1.ss, rfl⟩) (pad_cons (d := .lst ((psums (pouredV ar told pl)).map qd)) (pd_meth0 Msums (hr.mono (by decide)) dfl_nil (pd_call (r := rowD K ⟨ar, pouredV ar told pl, lk⟩) Fpoured (hr.mono (by decide)) dfl_nil (pad_cons (pd_var 8 rfl) (pad_cons (pd_var 11 rfl) pad_nil)) ⟨⟨ar, told, lk⟩, pl, pdl, 200, 300, rfl, pdlen, pget, po2, rfl⟩) rfl ⟨⟨ar, pouredV ar told pl, lk⟩, rfl, sp2.len, sp2.sm, sp2.ss, rfl⟩) pad_nil)) ⟨_, _, .inl rfl, sp1.ps, sp2.ps, lnP, by rw [over_dom (dP)]⟩))) (fun _ => (pt_not (PD.t (pd_call (r := .bl true) Fover (hr.mono (by decide)) dfl_nil (pad_cons (d := .lst ((psums (limitV ⟨ar, early, lk⟩ ord)).map qd)) (pd_meth0 Msums (hr.mono (by decide)) dfl_nil (pd_call (r := rowD K ⟨ar, limitV ⟨ar, early, lk⟩ ord, lk⟩) Flimit (hr.mono (by decide)) dfl_nil (pad_cons (pd_var 7 rfl) (pad_cons (pd_var 10 rfl) pad_nil)) ⟨⟨ar, early, lk⟩, ord, rfl, R1, z1, omem, by omega, rfl⟩) rfl ⟨⟨ar, limitV ⟨ar, early, lk⟩ ord, lk⟩, rfl, sl1.len, sl1.sm, sl1.ss, rfl⟩) (pad_cons (d := .lst ((psums (limitV ⟨ar, told, lk⟩ ord)).map qd)) (pd_meth0 Msums (hr.mono (by decide)) dfl_nil (pd_call (r := rowD K ⟨ar, limitV ⟨ar, told, lk⟩ ord, lk⟩) Flimit (hr.mono (by decide)) dfl_nil (pad_cons (pd_var 8 rfl) (pad_cons (pd_var 10 rfl) pad_nil)) ⟨⟨ar, told, lk⟩, ord, rfl, R2, z2, o12, by omega, rfl⟩) rfl ⟨⟨ar, limitV ⟨ar, told, lk⟩ ord, lk⟩, rfl, sl2.len, sl2.sm, sl2.ss, rfl⟩) pad_nil)) ⟨_, _, .inl rfl, sl1.ps, sl2.ps, lnL, by rw [over_dom (dL)]⟩))))) rfl (sds_nil ?_))
  change SDs _ [.d (.scr ns), .own l (drawO ns (k7 + ord.length)), .d (.tup (ar.map nD)), .d volsD, .d (.lst (lk.map nD)), .d (.tup (told.map qd)), .d (.tup (early.map qd)), .d (rowD K ⟨ar, early, lk⟩), .d (rowD K ⟨ar, told, lk⟩), .d (nD ar.length), .d (.lst (ord.map nD)), .d (.lst pdl), .no, .no, .no, .no, .no, .no, .no, .no, .no] _ _
  have hkP : k7 + ord.length ≤ 70 := by omega
  generalize k7 + ord.length = kP at *
  refine sds_cons (sd_for (fun p ρ => ∃ e13, ρ = [.d (.scr ns), .own l (drawO ns (kP)), .d (.tup (ar.map nD)), .d volsD, .d (.lst (lk.map nD)), .d (.tup (told.map qd)), .d (.tup (early.map qd)), .d (rowD K ⟨ar, early, lk⟩), .d (rowD K ⟨ar, told, lk⟩), .d (nD ar.length), .d (.lst (ord.map nD)), .d (.lst pdl), .no, e13, .no, .no, .no, .no, .no, .no, .no]) (src_range1 T.range (pd_add (pd_var 9 rfl) pd_int) (by omega)) ⟨_, rfl⟩ (fun p d ρ hd' hI => ?_) (fun ρ hI => ?_))
  · obtain ⟨e13, rfl⟩ := hI
    have hp : p < ar.length + 1 := by have := (List.getElem?_eq_some_iff.mp hd').1; rw [rgFrom_len] at this; omega
    rw [rgFrom_get (by omega)] at hd'
    cases hd'
    rw [Int.zero_add]
    have hpl : p ≤ ar.length := by omega
    have m1 := edge_mono (x := ⟨ar, told, lk⟩) (y := ⟨ar, early, lk⟩) (p := p) true R2 R1 rfl rfl hpl edom
    have m2 := edge_mono (x := ⟨ar, told, lk⟩) (y := ⟨ar, early, lk⟩) (p := p) false R2 R1 rfl rfl hpl edom
    have q1 := fun up => edge_sm (x := ⟨ar, early, lk⟩) (p := p) up z1 R1 hpl
    have q2 := fun up => edge_sm (x := ⟨ar, told, lk⟩) (p := p) up z2 R2 hpl
    refine ⟨_, _, (gd_name 13 sc.nd), ?_⟩
    refine sds_one (sd_ifF (v := !true) (pt_not (PD.t (pd_call (r := .bl true) Fover (hr.mono (by decide)) dfl_nil (pad_cons (d := .tup ([edgeV ⟨ar, early, lk⟩ p true, edgeV ⟨ar, early, lk⟩ p false].map qd)) (pd_tup (pad_cons (pd_fld (d := qd (edgeV ⟨ar, early, lk⟩ p true)) (pd_call (r := edgeD (cA K "High") ⟨ar, early, lk⟩ p true) Fhighest (hr.mono (by decide)) dfl_nil (pad_cons (pd_var 7 rfl) (pad_cons (pd_var 13 rfl) pad_nil)) ⟨⟨ar, early, lk⟩, p, rfl, R1, z1, hpl, rfl⟩) T.clHigh T.noHigh_number rfl) (pad_cons (pd_fld (d := qd (edgeV ⟨ar, early, lk⟩ p false)) (pd_call (r := edgeD (cA K "Low") ⟨ar, early, lk⟩ p false) Flowest (hr.mono (by decide)) dfl_nil (pad_cons (pd_var 7 rfl) (pad_cons (pd_var 13 rfl) pad_nil)) ⟨⟨ar, early, lk⟩, p, rfl, R1, z1, hpl, rfl⟩) T.clLow T.noLow_number rfl) pad_nil)) (lenOk rfl)) (pad_cons (d := .tup ([edgeV ⟨ar, told, lk⟩ p true, edgeV ⟨ar, told, lk⟩ p false].map qd)) (pd_tup (pad_cons (pd_fld (d := qd (edgeV ⟨ar, told, lk⟩ p true)) (pd_call (r := edgeD (cA K "High") ⟨ar, told, lk⟩ p true) Fhighest (hr.mono (by decide)) dfl_nil (pad_cons (pd_var 8 rfl) (pad_cons (pd_var 13 rfl) pad_nil)) ⟨⟨ar, told, lk⟩, p, rfl, R2, z2, hpl, rfl⟩) T.clHigh T.noHigh_number rfl) (pad_cons (pd_fld (d := qd (edgeV ⟨ar, told, lk⟩ p false)) (pd_call (r := edgeD (cA K "Low") ⟨ar, told, lk⟩ p false) Flowest (hr.mono (by decide)) dfl_nil (pad_cons (pd_var 8 rfl) (pad_cons (pd_var 13 rfl) pad_nil)) ⟨⟨ar, told, lk⟩, p, rfl, R2, z2, hpl, rfl⟩) T.clLow T.noLow_number rfl) pad_nil)) (lenOk rfl)) pad_nil)) ⟨[_, _], [_, _], .inr rfl, fun q hq => ?_, fun q hq => ?_, by show 2 ≤ 1000; decide, ?_⟩))) rfl (sds_nil ⟨_, rfl⟩))
    · rcases List.mem_cons.mp hq with rfl | hq
      · exact q1 true
      · rw [List.mem_singleton.mp hq]; exact q1 false
    · rcases List.mem_cons.mp hq with rfl | hq
      · exact q2 true
      · rw [List.mem_singleton.mp hq]; exact q2 false
    · rw [over_true fun i a b ha hb => ?_]
      match i, ha, hb with
      | 0, ha, hb => cases ha; cases hb; exact m1
      | 1, ha, hb => cases ha; cases hb; exact m2
  · obtain ⟨e13, rfl⟩ := hI
    have hpt := takeV_lt ns kP (m := ar.length + 1) (by omega)
    refine sds_cons (sd_asg (d := nD (takeV ns kP (ar.length + 1))) 13 (pd_callO (o' := drawO ns (kP + 1)) (r := nD (takeV ns kP (ar.length + 1))) 1 Ftake (hr.mono (by decide)) dfl_nil rfl (pad_cons (d := nD (ar.length + 1)) (PD.is (pd_add (pd_var 9 rfl) pd_int) rfl) pad_nil) rfl ⟨ns, kP, ar.length + 1, rfl, rfl, by omega, hD _ (by omega), rfl, rfl⟩) ?_ sc.nd)
    have hpl : takeV ns kP (ar.length + 1) ≤ ar.length := by omega
    generalize takeV ns kP (ar.length + 1) = p at *
    change SDs _ [.d (.scr ns), .own l (drawO ns (kP + 1)), .d (.tup (ar.map nD)), .d volsD, .d (.lst (lk.map nD)), .d (.tup (told.map qd)), .d (.tup (early.map qd)), .d (rowD K ⟨ar, early, lk⟩), .d (rowD K ⟨ar, told, lk⟩), .d (nD ar.length), .d (.lst (ord.map nD)), .d (.lst pdl), .no, .d (nD p), .no, .no, .no, .no, .no, .no, .no] _ _
    have getB : ∀ (f : Nat → Rat) (k : Nat) d y, (rgFrom 0 (4 : Int).toNat)[k]? = some d → (((List.range 4).map f).map qd)[k]? = some y → k < 4 ∧ d = nD k ∧ y = qd (f k) := fun f k d y hd hy => by
      have hk : k < 4 := by have := (List.getElem?_eq_some_iff.mp hd).1; rw [rgFrom_len] at this; exact this
      rw [rgFrom_get (by exact hk)] at hd
      rw [List.getElem?_map, List.getElem?_map, List.getElem?_range hk] at hy
      cases hd; cases hy
      exact ⟨hk, by rw [Int.zero_add], rfl⟩
    have bsm : ∀ {x : Rw}, RowSz x → RowOk x → x.ar.length ≤ 7 → ∀ q ∈ (List.range 4).map fun m => (bestOf x p m).1, Sm q := fun {x} hs hx h7 q hq => by
      obtain ⟨m, hm, rfl⟩ := List.mem_map.mp hq
      have := List.mem_range.mp hm
      exact best_sm_all hs hx h7 (by omega)
    have bov : overB ((List.range 4).map fun m => (bestOf ⟨ar, early, lk⟩ p m).1) ((List.range 4).map fun m => (bestOf ⟨ar, told, lk⟩ p m).1) = true := over_true fun i a b ha hb => by
      rw [List.getElem?_map] at ha hb
      cases hi : (List.range 4)[i]? with
      | none => rw [hi] at ha; cases ha
      | some j =>
        rw [hi] at ha hb
        cases ha; cases hb
        exact best_mono (x := ⟨ar, told, lk⟩) (y := ⟨ar, early, lk⟩) R2 R1 rfl rfl edom p j
    refine sds_cons (sd_ifF (v := !true) (pt_not (PD.t (pd_call (r := .bl true) Fover (hr.mono (by decide)) dfl_nil (pad_cons (d := .lst (((List.range 4).map fun m => (bestOf ⟨ar, early, lk⟩ p m).1).map qd)) (PL.lst (pl_lc (own := [("_law_number_here", 14)]) (lcr_to (((List.range 4).map fun m => (bestOf ⟨ar, early, lk⟩ p m).1).map qd) (src_range1 T.range pd_int (by decide)) [14] [14] (by decide) (no1 rfl) (by rw [rgFrom_len]; simp) (by rw [rgFrom_len]; decide) (fun k d y hd hy => by
        obtain ⟨hk, rfl, rfl⟩ := getB (fun m => (bestOf ⟨ar, early, lk⟩ p m).1) k d y hd hy
        exact ⟨_, fun _ _ _ _ _ => (gd_name 14 sc.nd), fun _ _ _ _ _ => (pd_fld (d := qd (bestOf ⟨ar, early, lk⟩ p k).1) (pd_call (r := bestD K (bestOf ⟨ar, early, lk⟩ p k)) Fbest (hr.mono (by decide)) dfl_nil (pad_cons (pd_var 7 rfl) (pad_cons (pd_var 13 rfl) (pad_cons (pd_var 14 rfl) pad_nil))) ⟨⟨ar, early, lk⟩, p, k, rfl, R1, z1, n7, hpl, by omega, rfl⟩) T.clBest T.noBest_number rfl), rfl⟩)) sc.nd rfl)) (pad_cons (d := .lst (((List.range 4).map fun m => (bestOf ⟨ar, told, lk⟩ p m).1).map qd)) (PL.lst (pl_lc (own := [("_law_number_here", 14)]) (lcr_to (((List.range 4).map fun m => (bestOf ⟨ar, told, lk⟩ p m).1).map qd) (src_range1 T.range pd_int (by decide)) [14] [14] (by decide) (no1 rfl) (by rw [rgFrom_len]; simp) (by rw [rgFrom_len]; decide) (fun k d y hd hy => by
        obtain ⟨hk, rfl, rfl⟩ := getB (fun m => (bestOf ⟨ar, told, lk⟩ p m).1) k d y hd hy
        exact ⟨_, fun _ _ _ _ _ => (gd_name 14 sc.nd), fun _ _ _ _ _ => (pd_fld (d := qd (bestOf ⟨ar, told, lk⟩ p k).1) (pd_call (r := bestD K (bestOf ⟨ar, told, lk⟩ p k)) Fbest (hr.mono (by decide)) dfl_nil (pad_cons (pd_var 8 rfl) (pad_cons (pd_var 13 rfl) (pad_cons (pd_var 14 rfl) pad_nil))) ⟨⟨ar, told, lk⟩, p, k, rfl, R2, z2, n7, hpl, by omega, rfl⟩) T.clBest T.noBest_number rfl), rfl⟩)) sc.nd rfl)) pad_nil)) ⟨_, _, .inl rfl, bsm z1 R1 n7, bsm z2 R2 n7, by simp, by rw [bov]⟩))) rfl (sds_nil ?_))
    have gP : (psums early)[p]? = some (Pw early p) := psums_get (by omega)
    have smP : Sm (Pw early p) := s1.ss p
    have sm12 : Sm q12 := sm_ht ⟨⟨1, by decide +kernel⟩, by decide +kernel, by decide +kernel⟩
    have smM : Sm (Pw early p + q12) := by
      have b2 : Sz 2 2 q12 := ⟨by decide, by decide⟩
      exact (sz_add (z1.w R1 p) b2).mono (by decide) (by decide)
    have hmost := R1.most
    have fN := filter_nD (fun d => match d with | .int i => !decide (i = ((p : Nat) : Int)) | _ => false) (fun k => !decide (k = p)) (fun k => by
      show (!decide (((k : Nat) : Int) = ((p : Nat) : Int))) = !decide (k = p)
      rw [decide_eq_decide.mpr (show (((k : Nat) : Int) = ((p : Nat) : Int)) ↔ k = p by omega)]) (weirsOf ⟨ar, early, lk⟩)
    refine sds_cons (sd_par (d1 := .lst (((weirsOf ⟨ar, early, lk⟩).filter fun k => !decide (k = p)).map nD)) (d2 := qd (Pw early p + q12)) 15 16 (pad_cons (PD.is (PL.lst (pl_lc (own := [("_law_weir", 12)]) (lcr_filter (src_list (pd_meth0 (r := .lst ((weirsOf ⟨ar, early, lk⟩).map nD)) Mweirs (hr.mono (by decide)) dfl_nil (pd_var 7 rfl) rfl ⟨⟨ar, early, lk⟩, rfl, hmost, rfl⟩)) id (fun d => match d with | .int i => !decide (i = ((p : Nat) : Int)) | _ => false) [12] [12] (by decide) (no1 rfl) (by rw [List.length_map]; omega) (fun d hd => by
      obtain ⟨j, _, rfl⟩ := List.mem_map.mp hd
      exact ⟨_, fun _ _ _ _ _ => (gd_name 12 sc.nd), fun _ _ _ _ _ => (pt_ne (pd_var 12 rfl) (pd_var 13 rfl)), fun ht _ _ _ _ _ => (pd_var 12 rfl), rfl⟩)) sc.nd rfl)) (by rw [fN])) (pad_cons (pd_call Fplus (hr.mono (by decide)) dfl_nil (pad_cons (pd_at (d := qd (Pw early p)) (pd_meth0 (r := .lst ((psums early).map qd)) Msums (hr.mono (by decide)) dfl_nil (pd_var 7 rfl) rfl ⟨⟨ar, early, lk⟩, rfl, s1.len, s1.sm, s1.ss, rfl⟩) (pd_var 13 rfl) (atD_lst (atI_map (atI_n gP)))) (pad_cons (d := qd q12) (pd_tup (pad_cons pd_int (pad_cons pd_int pad_nil)) (lenOk rfl)) pad_nil)) ⟨_, _, rfl, smP, sm12, rfl⟩) pad_nil)) ?_ sc.nd)
    have chOk : ∀ (v : List Rat), ChOk ⟨ar, v, lk⟩ ((weirsOf ⟨ar, early, lk⟩).filter fun k => !decide (k = p)) := fun v => ⟨by
      refine List.Pairwise.filter _ ?_
      unfold weirsOf
      refine List.Pairwise.filter _ ?_
      rw [List.pairwise_map]
      exact List.Pairwise.imp (fun {a b} h => by omega) List.pairwise_lt_range, fun k hk => (List.mem_filter.mp hk).1⟩
    have chR : ∀ k ∈ (weirsOf ⟨ar, early, lk⟩).filter fun k => !decide (k = p), 1 ≤ k ∧ k < ar.length := (chOk early).lt
    generalize ((weirsOf ⟨ar, early, lk⟩).filter fun k => !decide (k = p)) = ch at *
    have gm : ∀ lo, guardOf ⟨ar, early, lk⟩ ch p (Pw early p + q12) = some lo → ∃ l', guardOf ⟨ar, told, lk⟩ ch p (Pw early p + q12) = some l' ∧ l'.length ≤ lo.length := fun lo hg => guard_mono (x := ⟨ar, told, lk⟩) (y := ⟨ar, early, lk⟩) R2 R1 rfl rfl hpl edom chR hg
    generalize Pw early p + q12 = mo at *
    have mlen : (moreV ns (kP + 1) told).length = ar.length := by unfold moreV; simp; exact lT
    have mget : ∀ i, i < ar.length → (moreV ns (kP + 1) told)[i]? = some (told.getD i 0 + takeQ moreL ns (kP + 1 + i)) := fun i hi => by
      unfold moreV
      rw [List.getElem?_map, List.getElem?_range (by omega)]; rfl
    have mmem : ∀ q ∈ moreV ns (kP + 1) told, 0 ≤ q ∧ Bd 6 12 q := fun q hq => by
      unfold moreV at hq
      obtain ⟨i, hi, rfl⟩ := List.mem_map.mp hq
      have hi := List.mem_range.mp hi
      obtain ⟨a1, a2⟩ := told6 _ (getD_mem (d := 0) hi)
      obtain ⟨b1, b2⟩ := more_ok (takeQ_mem (L := moreL) ns (kP + 1 + i) (by decide))
      exact ⟨by grind, (a2.add b2).mono (by decide)⟩
    have sea : SeaIn ar told (moreV ns (kP + 1) told) := ⟨n0, n7, L1.a4, lT, mlen, fun q hq => (told6 q hq).1, fun q hq => (mmem q hq).1, fun q hq => (told6 q hq).2.mono (by decide), fun q hq => (mmem q hq).2.mono (by decide), fun i => by
      by_cases hi : i < ar.length
      · rw [gt_some (mget i hi)]
        have := (more_ok (takeQ_mem (L := moreL) ns (kP + 1 + i) (by decide))).1
        show told.getD i 0 ≤ _
        grind
      · show told.getD i 0 ≤ (moreV ns (kP + 1) told).getD i 0
        rw [List.getD_eq_getElem?_getD, List.getD_eq_getElem?_getD, List.getElem?_eq_none (by omega), List.getElem?_eq_none (by omega)]; exact Rat.le_refl⟩
    have tail : ∀ e17 e18 : E, SDs (cxOf CX0 P w K mg base ["_law_script", "_law_draw", "_law_areas", "_law_volumes", "_law_locks", "_law_told", "_law_early", "_law_one", "_law_other", "_law_many", "_law_order_here", "_law_parts", "_law_weir", "_law_place", "_law_number_here", "_law_choices", "_law_most", "_law_mine", "_law_theirs", "_law_more", "_law_volume"] "law" (defScope s_law) f cdv A outer s H E0).nox [.d (.scr ns), .own l (drawO ns (kP + 1)), .d (.tup (ar.map nD)), .d volsD, .d (.lst (lk.map nD)), .d (.tup (told.map qd)), .d (.tup (early.map qd)), .d (rowD K ⟨ar, early, lk⟩), .d (rowD K ⟨ar, told, lk⟩), .d (nD ar.length), .d (.lst (ord.map nD)), .d (.lst pdl), .no, .d (nD p), .no, .d (.lst (ch.map nD)), .d (qd mo), e17, e18, .no, .no] ((defBody s_law).drop 15) { nx := fun ρ => D.bl true = .non, rt := fun ρ d => d = .bl true } := fun e17 e18 => by
      refine sds_cons (sd_asg (d := .tup ((moreV ns (kP + 1) told).map qd)) (ρ1 := [.d (.scr ns), .own l (drawO ns (kP + 1 + ar.length)), .d (.tup (ar.map nD)), .d volsD, .d (.lst (lk.map nD)), .d (.tup (told.map qd)), .d (.tup (early.map qd)), .d (rowD K ⟨ar, early, lk⟩), .d (rowD K ⟨ar, told, lk⟩), .d (nD ar.length), .d (.lst (ord.map nD)), .d (.lst pdl), .no, .d (nD p), .no, .d (.lst (ch.map nD)), .d (qd mo), e17, e18, .no, .no]) 19 (pd_tuple (x := .lst ((moreV ns (kP + 1) told).map qd)) T.tuple (PL.lst (pl_lc (own := [("_law_volume", 20)]) (lcr_st (fun i => [.d (.scr ns), .own l (drawO ns (kP + 1 + i)), .d (.tup (ar.map nD)), .d volsD, .d (.lst (lk.map nD)), .d (.tup (told.map qd)), .d (.tup (early.map qd)), .d (rowD K ⟨ar, early, lk⟩), .d (rowD K ⟨ar, told, lk⟩), .d (nD ar.length), .d (.lst (ord.map nD)), .d (.lst pdl), .no, .d (nD p), .no, .d (.lst (ch.map nD)), .d (qd mo), e17, e18, .no, .no]) ((moreV ns (kP + 1) told).map qd) (src_tup (pd_var 5 rfl)) rfl [20] [20] (by decide) (fun _ _ => no1 rfl) ?_ ?_ (fun i d y hd' hy => ?_) ?_) sc.nd rfl)) rfl) ?_ sc.nd)
      · rw [List.length_map, List.length_map, mlen, lT]
      · rw [List.length_map]; omega
      · have hi : i < ar.length := by have := (List.getElem?_eq_some_iff.mp hd').1; rw [List.length_map] at this; omega
        rw [List.getElem?_map, getD_some (d := 0) (by omega)] at hd'
        cases hd'
        rw [List.getElem?_map, mget i hi] at hy
        cases hy
        have a2 := (told6 _ (getD_mem (xs := told) (i := i) (d := 0) (by omega))).2
        have b2 := (more_ok (takeQ_mem (L := moreL) ns (kP + 1 + i) (by decide))).2
        have sz6 : ∀ {q : Rat} {M : Nat}, Bd 6 M q → M ≤ 8 → Sm q := fun hb hM => hb.sm (by decide) (Nat.lt_of_lt_of_le (show 6 < 2 ^ 3 by decide) (Nat.pow_le_pow_right (by decide) (by decide))) (Nat.lt_of_le_of_lt (Nat.mul_le_mul_right 6 hM) (Nat.lt_of_lt_of_le (show 8 * 6 < 2 ^ 9 by decide) (Nat.pow_le_pow_right (by decide) (by decide))))
        refine ⟨_, _, fun _ _ _ _ _ => (gd_name 20 sc.nd), fun _ _ _ _ _ => (pd_call Fplus (hr.mono (by decide)) dfl_nil (pad_cons (d := qd (told.getD i 0)) (pd_var 20 rfl) (pad_cons (pd_callO (o' := drawO ns (kP + 1 + i + 1)) (r := qd (takeQ moreL ns (kP + 1 + i))) 1 Fpick (hr.mono (by decide)) dfl_nil rfl (pad_three _ _ _ _ _ _ _ _ _ _) rfl ⟨ns, kP + 1 + i, .lst (moreL.map qd), moreL.map qd, rfl, rfl, rfl, by decide, hD _ (by omega), rfl, pick_get ns (kP + 1 + i) (by decide)⟩) pad_nil)) ⟨_, _, rfl, sz6 a2 (by decide), sz6 b2 (by decide), rfl⟩), rfl⟩
      · rw [List.length_map, lT]
      refine sds_one (sd_ret (pd_callO (o' := drawO ns (seasK ns (kP + 1 + ar.length))) (r := .bl true) 1 Fseas (hr.mono (by decide)) dfl_nil rfl (pad_cons (pd_var 2 rfl) (pad_cons (pd_var 5 rfl) (pad_cons (pd_var 19 rfl) pad_nil))) rfl ⟨ns, kP + 1 + ar.length, ar, told, moreV ns (kP + 1) told, rfl, rfl, sea, hD _ (by omega), rfl, rfl⟩) rfl)
    cases hg : guardOf ⟨ar, early, lk⟩ ch p mo with
    | none =>
      refine sds_cons (sd_par (d1 := .non) (d2 := guardR K ⟨ar, told, lk⟩ ch p mo) 17 18 (pad_cons (pd_call Fguards (hr.mono (by decide)) dfl_nil (pad_cons (pd_var 7 rfl) (pad_cons (pd_var 15 rfl) (pad_cons (pd_var 13 rfl) (pad_cons (pd_var 16 rfl) pad_nil)))) ⟨⟨ar, early, lk⟩, ch, p, mo, rfl, R1, z1, chOk early, hpl, smM, by unfold guardR; rw [hg]⟩) (pad_cons (pd_call Fguards (hr.mono (by decide)) dfl_nil (pad_cons (pd_var 8 rfl) (pad_cons (pd_var 15 rfl) (pad_cons (pd_var 13 rfl) (pad_cons (pd_var 16 rfl) pad_nil)))) ⟨⟨ar, told, lk⟩, ch, p, mo, rfl, R2, z2, chOk told, hpl, smM, rfl⟩) pad_nil)) ?_ sc.nd)
      refine sds_cons (sd_ifF (v := false && false) (pt_and2 (p := false) (q := false) (PTD.is (pt_notN (pd_var 17 rfl)) rfl) (fun z => by cases z)) rfl (sds_nil ?_))
      exact tail _ _
    | some lo =>
      obtain ⟨l', hg', hle⟩ := gm lo hg
      refine sds_cons (sd_par (d1 := guardD K ⟨ar, early, lk⟩ ch p lo) (d2 := guardD K ⟨ar, told, lk⟩ ch p l') 17 18 (pad_cons (pd_call Fguards (hr.mono (by decide)) dfl_nil (pad_cons (pd_var 7 rfl) (pad_cons (pd_var 15 rfl) (pad_cons (pd_var 13 rfl) (pad_cons (pd_var 16 rfl) pad_nil)))) ⟨⟨ar, early, lk⟩, ch, p, mo, rfl, R1, z1, chOk early, hpl, smM, by unfold guardR; rw [hg]⟩) (pad_cons (pd_call Fguards (hr.mono (by decide)) dfl_nil (pad_cons (pd_var 8 rfl) (pad_cons (pd_var 15 rfl) (pad_cons (pd_var 13 rfl) (pad_cons (pd_var 16 rfl) pad_nil)))) ⟨⟨ar, told, lk⟩, ch, p, mo, rfl, R2, z2, chOk told, hpl, smM, by unfold guardR; rw [hg']⟩) pad_nil)) ?_ sc.nd)
      refine sds_cons (sd_ifF (v := true && (false || false)) (pt_and2 (p := true) (q := false || false) (PTD.is (pt_notN (pd_var 17 rfl)) rfl) (fun _ => pt_or2 (p := false) (q := false) (PTD.is (pt_isN (pd_var 18 rfl)) rfl) (fun _ => PTD.is (pt_gt (pd_len (i := (l'.length : Nat)) T.len (pd_fld (d := .lst (l'.map nD)) (pd_var 18 rfl) T.clGuard T.noGuard_locks rfl) (by show some _ = some _; rw [List.length_map])) (pd_len (i := (lo.length : Nat)) T.len (pd_fld (d := .lst (lo.map nD)) (pd_var 17 rfl) T.clGuard T.noGuard_locks rfl) (by show some _ = some _; rw [List.length_map]))) (decide_eq_false (by omega))))) rfl (sds_nil ?_))
      exact tail _ _
end
end WL
set_option Elab.async false
set_option linter.all false
set_option maxRecDepth 100000
set_option maxHeartbeats 16000000
namespace WL
open PySem PySem.Spec PyProof.Rows L2
theorem ins_ok {K : PySem.W.Frag} {C : Addr} (cl : Cls K C) (h : insB K C = true) : InsTy K C := by
  obtain ⟨h1, h⟩ := He.ba h
  obtain ⟨h2, h⟩ := He.ba h
  obtain ⟨h3, h4⟩ := He.ba h
  exact ⟨cl, He.eqO_ok h1, He.eqO_ok h2, of_decide_eq_true h3, of_decide_eq_true h4⟩
theorem tupAt_ok {K : PySem.W.Frag} {a : Addr} {vs : List V} (h : tupAtB K a vs = true) (H : Hp) : SqT K H a vs := by
  unfold tupAtB at h
  cases q : K.lookup a with
  | none =>
    rw [q] at h
    cases h
  | some o =>
    obtain ⟨oc, od, dt, osl⟩ := o
    rw [q] at h
    cases oc with
    | type c =>
      cases dt with
      | seq its n =>
        obtain ⟨h1, h2⟩ := He.ba (show (decide (c = "tuple") && (decide (its.size ≤ sizeLine) && He.relAll vs its.toList)) = true from h)
        obtain ⟨h3, h4⟩ := He.ba h2
        exact .inr ⟨_, its, n, q, congrArg Value.type (of_decide_eq_true h1), rfl, of_decide_eq_true h3, He.relAll_ok h4⟩
      | _ => cases h
    | _ => cases dt <;> cases h
theorem facts {P : Program} {w : World} {K : PySem.W.Frag} {h : Heap} {mg : Str → Option Value} {f : Addr} (X : K.In h) (G : h.Ns mainGlobals mg) (hfa : mg ("law" : Str) = some (.ref f)) (c : He.SaysX fa fn [] [] exB w h K) :
    ∃ fd : FuncData, (∀ (s : Shared) (v : Value), BindsTo s fd ⟨[v], []⟩ [("_law_script", v)]) ∧ ∀ base : Heap, K.In base → base.Ns mainGlobals mg → FnOk P w K mg base CX0 13 f fd ["_law_script"] (SpP ⟨P, w, K⟩ RLaw) := by
  have ex := c.more
  obtain ⟨e1, ex⟩ := He.ba ex
  obtain ⟨e2, ex⟩ := He.ba ex
  obtain ⟨e3, ex⟩ := He.ba ex
  obtain ⟨e4, ex⟩ := He.ba ex
  obtain ⟨e5, ex⟩ := He.ba ex
  obtain ⟨e6, ex⟩ := He.ba ex
  obtain ⟨e7, e8⟩ := He.ba ex
  have e7 := of_decide_eq_true e7
  have e8 := of_decide_eq_true e8
  have T : Tx K mg := ⟨He.free_ok X G (c.t.d.fact 128 (f := .free "isinstance") rfl), He.free_ok X G (c.t.d.fact 129 (f := .free "int") rfl), He.free_ok X G (c.t.d.fact 130 (f := .free "bool") rfl), He.free_ok X G (c.t.d.fact 131 (f := .free "tuple") rfl), He.free_ok X G (c.t.d.fact 132 (f := .free "list") rfl), He.free_ok X G (c.t.d.fact 133 (f := .free "abs") rfl), He.free_ok X G (c.t.d.fact 134 (f := .free "len") rfl), He.free_ok X G (c.t.d.fact 135 (f := .free "zip") rfl), He.free_ok X G (c.t.d.fact 136 (f := .free "range") rfl), He.free_ok X G (c.t.d.fact 137 (f := .free "all") rfl), He.free_ok X G (c.t.d.fact 138 (f := .free "any") rfl), He.free_ok X G (c.t.d.fact 139 (f := .free "sorted") rfl), He.free_ok X G (c.t.d.fact 140 (f := .free "sum") rfl), He.free_ok X G (c.t.d.fact 141 (f := .free "min") rfl), He.free_ok X G (c.t.d.fact 142 (f := .free "enumerate") rfl), He.free_ok X G (c.t.d.fact 143 (f := .free "dict") rfl), He.int_ok X G (c.t.d.fact 144 (f := .int "MOST_BASINS" 24) rfl), He.int_ok X G (c.t.d.fact 145 (f := .int "MOST_AREA" 1000) rfl), He.int_ok X G (c.t.d.fact 146 (f := .int "MOST_ORDER" 20000) rfl), He.int_ok X G (c.t.d.fact 147 (f := .int "MOST_DEEDS" 8) rfl), He.int_ok X G (c.t.d.fact 148 (f := .int "MOST_SHARES" 4000) rfl), He.glo_ok X G (c.t.d.fact 72 (f := .glo "Row") rfl), He.glo_ok X G (c.t.d.fact 113 (f := .glo "Coast") rfl), He.cls_ok (c.t.d.fact 73 (f := .cls "Row") rfl), He.cls_ok (c.t.d.fact 114 (f := .cls "Coast") rfl), He.cls_ok (c.t.d.fact 88 (f := .cls "High") rfl), He.cls_ok (c.t.d.fact 95 (f := .cls "Low") rfl), He.cls_ok (c.t.d.fact 102 (f := .cls "Guard") rfl), He.cls_ok (c.t.d.fact 108 (f := .cls "Best") rfl), He.cls_ok (c.t.d.fact 123 (f := .cls "Cycle") rfl), He.noat_ok (c.t.d.fact 76 (f := .noat "Row" "areas") rfl), He.noat_ok (c.t.d.fact 77 (f := .noat "Row" "volumes") rfl), He.noat_ok (c.t.d.fact 78 (f := .noat "Row" "locks") rfl), He.noat_ok (c.t.d.fact 117 (f := .noat "Coast" "row") rfl), He.noat_ok (c.t.d.fact 118 (f := .noat "Coast" "left") rfl), He.noat_ok (c.t.d.fact 119 (f := .noat "Coast" "right") rfl), He.noat_ok (c.t.d.fact 91 (f := .noat "High" "number") rfl), He.noat_ok (c.t.d.fact 92 (f := .noat "High" "one") rfl), He.noat_ok (c.t.d.fact 93 (f := .noat "High" "other") rfl), He.noat_ok (c.t.d.fact 98 (f := .noat "Low" "number") rfl), He.noat_ok (c.t.d.fact 99 (f := .noat "Low" "one") rfl), He.noat_ok (c.t.d.fact 100 (f := .noat "Low" "other") rfl), He.noat_ok (c.t.d.fact 105 (f := .noat "Guard" "locks") rfl), He.noat_ok (c.t.d.fact 106 (f := .noat "Guard" "against") rfl), He.noat_ok (c.t.d.fact 111 (f := .noat "Best" "number") rfl), He.noat_ok (c.t.d.fact 112 (f := .noat "Best" "order") rfl), He.noat_ok (c.t.d.fact 126 (f := .noat "Cycle" "volumes") rfl), He.noat_ok (c.t.d.fact 127 (f := .noat "Cycle" "flow") rfl), ins_ok (He.cls_ok (c.t.d.fact 73 (f := .cls "Row") rfl)) e3, ins_ok (He.cls_ok (c.t.d.fact 114 (f := .cls "Coast") rfl)) e4, of_decide_eq_true e5, of_decide_eq_true e6⟩
  have hdR : Dfl ⟨P, w, K⟩ [.tup []] [.ref (He.dflAt ("Row", some "__init__") 0 K)] := fun H => ⟨_, _, rfl, ⟨_, _, rfl, tupAt_ok e1 H, rfl⟩, rfl⟩
  have hdO : Dfl ⟨P, w, K⟩ [qd 1] [.ref (He.dflAt ("Row", some "opened") 0 K)] := fun H => ⟨_, _, rfl, ⟨_, _, rfl, tupAt_ok e2 H, ⟨_, _, rfl, rep_int, ⟨_, _, rfl, rep_int, rfl⟩⟩⟩, rfl⟩
  obtain ⟨fdL, FL⟩ := c.t.d.def_ 87 (d := d_law) rfl
  have eL := hfa.symm.trans (He.glo_ok X G (c.t.d.fact 71 (f := .glo "law") rfl))
  cases eL
  have bL := FunD.bindsA (ps := ["_law_script"]) FL fun _ _ _ _ _ _ us hl => match us, hl with | [_], _ => rfl
  refine ⟨fdL, fun s v => bL s [v] rfl, fun base _ _ => ?_⟩
  have D_is_whole : Dfn K mg "is_whole" s_is_whole [] := by
    obtain ⟨fd, F⟩ := c.t.d.def_ 0 (d := d_is_whole) rfl
    exact ⟨_, fd, He.glo_ok X G (c.t.d.fact 0 (f := .glo "is_whole") rfl), F⟩
  have h_C_is_whole : C_is_whole P w K mg base := fn_is_whole T D_is_whole
  have D_common : Dfn K mg "common" s_common [] := by
    obtain ⟨fd, F⟩ := c.t.d.def_ 1 (d := d_common) rfl
    exact ⟨_, fd, He.glo_ok X G (c.t.d.fact 1 (f := .glo "common") rfl), F⟩
  have h_C_common : Fn P w K mg base "common" ["one", "other"] 1 (SpP ⟨P, w, K⟩ RCommon) [] := fn_common T D_common
  have D_part : Dfn K mg "part" s_part [.int 1] := by
    obtain ⟨fd, F⟩ := c.t.d.def_ 2 (d := d_part) rfl
    exact ⟨_, fd, He.glo_ok X G (c.t.d.fact 2 (f := .glo "part") rfl), F⟩
  have h_C_part : C_part P w K mg base := fn_part T D_part h_C_common
  have h_C_part1 : C_part1 P w K mg base := fn_part1 T D_part h_C_common
  have D_plus : Dfn K mg "plus" s_plus [] := by
    obtain ⟨fd, F⟩ := c.t.d.def_ 5 (d := d_plus) rfl
    exact ⟨_, fd, He.glo_ok X G (c.t.d.fact 5 (f := .glo "plus") rfl), F⟩
  have h_C_plus : C_plus P w K mg base := fn_plus D_plus h_C_part
  have D_minus : Dfn K mg "minus" s_minus [] := by
    obtain ⟨fd, F⟩ := c.t.d.def_ 6 (d := d_minus) rfl
    exact ⟨_, fd, He.glo_ok X G (c.t.d.fact 6 (f := .glo "minus") rfl), F⟩
  have h_C_minus : C_minus P w K mg base := fn_minus D_minus h_C_part
  have D_times : Dfn K mg "times" s_times [] := by
    obtain ⟨fd, F⟩ := c.t.d.def_ 7 (d := d_times) rfl
    exact ⟨_, fd, He.glo_ok X G (c.t.d.fact 7 (f := .glo "times") rfl), F⟩
  have h_C_times : C_times P w K mg base := fn_times D_times h_C_part
  have D_over : Dfn K mg "over" s_over [] := by
    obtain ⟨fd, F⟩ := c.t.d.def_ 8 (d := d_over) rfl
    exact ⟨_, fd, He.glo_ok X G (c.t.d.fact 8 (f := .glo "over") rfl), F⟩
  have h_C_over : C_over P w K mg base := fn_over D_over h_C_part
  have D_is_less : Dfn K mg "is_less" s_is_less [] := by
    obtain ⟨fd, F⟩ := c.t.d.def_ 9 (d := d_is_less) rfl
    exact ⟨_, fd, He.glo_ok X G (c.t.d.fact 9 (f := .glo "is_less") rfl), F⟩
  have h_C_is_less : C_is_less P w K mg base := fn_is_less D_is_less
  have D_is_part : Dfn K mg "is_part" s_is_part [] := by
    obtain ⟨fd, F⟩ := c.t.d.def_ 3 (d := d_is_part) rfl
    exact ⟨_, fd, He.glo_ok X G (c.t.d.fact 3 (f := .glo "is_part") rfl), F⟩
  have h_C_is_part : C_is_part P w K mg base := fn_is_part T D_is_part h_C_is_whole
  have D_as_part : Dfn K mg "as_part" s_as_part [] := by
    obtain ⟨fd, F⟩ := c.t.d.def_ 4 (d := d_as_part) rfl
    exact ⟨_, fd, He.glo_ok X G (c.t.d.fact 4 (f := .glo "as_part") rfl), F⟩
  have h_C_as_part : C_as_part P w K mg base := fn_as_part T D_as_part h_C_is_part h_C_part h_C_part1
  have D_greatest : Dfn K mg "greatest" s_greatest [] := by
    obtain ⟨fd, F⟩ := c.t.d.def_ 10 (d := d_greatest) rfl
    exact ⟨_, fd, He.glo_ok X G (c.t.d.fact 10 (f := .glo "greatest") rfl), F⟩
  have h_C_greatest : C_greatest P w K mg base := fn_greatest T D_greatest h_C_is_less
  have D_least : Dfn K mg "least" s_least [] := by
    obtain ⟨fd, F⟩ := c.t.d.def_ 11 (d := d_least) rfl
    exact ⟨_, fd, He.glo_ok X G (c.t.d.fact 11 (f := .glo "least") rfl), F⟩
  have h_C_least : C_least P w K mg base := fn_least T D_least h_C_is_less
  have D_total : Dfn K mg "total" s_total [] := by
    obtain ⟨fd, F⟩ := c.t.d.def_ 12 (d := d_total) rfl
    exact ⟨_, fd, He.glo_ok X G (c.t.d.fact 12 (f := .glo "total") rfl), F⟩
  have h_C_total : C_total P w K mg base := fn_total T D_total h_C_plus
  have D__law_common : Dfn K mg "_law_common" s__law_common [] := by
    obtain ⟨fd, F⟩ := c.t.d.def_ 74 (d := d__law_common) rfl
    exact ⟨_, fd, He.glo_ok X G (c.t.d.fact 58 (f := .glo "_law_common") rfl), F⟩
  have h_C__law_common : C__law_common P w K mg base := fn__law_common T D__law_common
  have D__law_part : Dfn K mg "_law_part" s__law_part [] := by
    obtain ⟨fd, F⟩ := c.t.d.def_ 75 (d := d__law_part) rfl
    exact ⟨_, fd, He.glo_ok X G (c.t.d.fact 59 (f := .glo "_law_part") rfl), F⟩
  have h_C__law_part : C__law_part P w K mg base := fn__law_part T D__law_part h_C__law_common
  have D__law_plus : Dfn K mg "_law_plus" s__law_plus [] := by
    obtain ⟨fd, F⟩ := c.t.d.def_ 76 (d := d__law_plus) rfl
    exact ⟨_, fd, He.glo_ok X G (c.t.d.fact 60 (f := .glo "_law_plus") rfl), F⟩
  have h_C__law_plus : C__law_plus P w K mg base := fn__law_plus D__law_plus h_C__law_part
  have D__law_minus : Dfn K mg "_law_minus" s__law_minus [] := by
    obtain ⟨fd, F⟩ := c.t.d.def_ 79 (d := d__law_minus) rfl
    exact ⟨_, fd, He.glo_ok X G (c.t.d.fact 63 (f := .glo "_law_minus") rfl), F⟩
  have h_C__law_minus : C__law_minus P w K mg base := fn__law_minus D__law_minus h_C__law_part
  have D__law_times : Dfn K mg "_law_times" s__law_times [] := by
    obtain ⟨fd, F⟩ := c.t.d.def_ 78 (d := d__law_times) rfl
    exact ⟨_, fd, He.glo_ok X G (c.t.d.fact 62 (f := .glo "_law_times") rfl), F⟩
  have h_C__law_times : C__law_times P w K mg base := fn__law_times D__law_times h_C__law_part
  have D__law_less : Dfn K mg "_law_less" s__law_less [] := by
    obtain ⟨fd, F⟩ := c.t.d.def_ 77 (d := d__law_less) rfl
    exact ⟨_, fd, He.glo_ok X G (c.t.d.fact 61 (f := .glo "_law_less") rfl), F⟩
  have h_C__law_less : C__law_less P w K mg base := fn__law_less D__law_less
  have D_is_areas : Dfn K mg "is_areas" s_is_areas [] := by
    obtain ⟨fd, F⟩ := c.t.d.def_ 20 (d := d_is_areas) rfl
    exact ⟨_, fd, He.glo_ok X G (c.t.d.fact 20 (f := .glo "is_areas") rfl), F⟩
  have h_C_is_areas : C_is_areas P w K mg base := fn_is_areas T D_is_areas h_C_is_whole
  have Cd_Row : Cdf K mg "Row" "Row.__init__" s_Row___init__ [.ref (He.dflAt ("Row", some "__init__") 0 K)] := by
    obtain ⟨fd, F⟩ := c.t.d.def_ 21 (d := d_Row___init__) rfl
    exact ⟨_, fd, He.glo_ok X G (c.t.d.fact 72 (f := .glo "Row") rfl), He.mkr_ok (c.t.d.fact 74 (f := .mkr "Row") rfl), F⟩
  have h_C_Row3 : C_Row3 P w K mg base := mc_Row3 T Cd_Row h_C_is_whole h_C_is_areas h_C_is_part h_C_as_part
  have h_C_Row2 : C_Row2 P w K mg base (.ref (He.dflAt ("Row", some "__init__") 0 K)) := mc_Row2 T Cd_Row h_C_is_whole h_C_is_areas h_C_is_part h_C_as_part
  have M_Row___len__ : Mdf K (cA K "Row") "__len__" "Row.__len__" s_Row___len__ [] := by
    obtain ⟨fd, F⟩ := c.t.d.def_ 22 (d := d_Row___len__) rfl
    exact ⟨_, fd, He.meth_ok (c.t.d.fact 79 (f := .meth "Row" "__len__") rfl), F⟩
  have h_M_len : M_len P w K mg base := me_len T M_Row___len__
  have M_Row___contains__ : Mdf K (cA K "Row") "__contains__" "Row.__contains__" s_Row___contains__ [] := by
    obtain ⟨fd, F⟩ := c.t.d.def_ 23 (d := d_Row___contains__) rfl
    exact ⟨_, fd, He.meth_ok (c.t.d.fact 80 (f := .meth "Row" "__contains__") rfl), F⟩
  have h_M_in : M_in P w K mg base := me_in T M_Row___contains__
  have M_Row_weirs : Mdf K (cA K "Row") "weirs" "Row.weirs" s_Row_weirs [] := by
    obtain ⟨fd, F⟩ := c.t.d.def_ 24 (d := d_Row_weirs) rfl
    exact ⟨_, fd, He.meth_ok (c.t.d.fact 81 (f := .meth "Row" "weirs") rfl), F⟩
  have h_M_weirs : M_weirs P w K mg base := me_weirs T M_Row_weirs
  have M_Row_sums : Mdf K (cA K "Row") "sums" "Row.sums" s_Row_sums [] := by
    obtain ⟨fd, F⟩ := c.t.d.def_ 25 (d := d_Row_sums) rfl
    exact ⟨_, fd, He.meth_ok (c.t.d.fact 82 (f := .meth "Row" "sums") rfl), F⟩
  have h_M_sums : M_sums P w K mg base := me_sums T M_Row_sums h_C_plus
  have M_Row_reaches : Mdf K (cA K "Row") "reaches" "Row.reaches" s_Row_reaches [] := by
    obtain ⟨fd, F⟩ := c.t.d.def_ 26 (d := d_Row_reaches) rfl
    exact ⟨_, fd, He.meth_ok (c.t.d.fact 83 (f := .meth "Row" "reaches") rfl), F⟩
  have h_M_reaches : M_reaches P w K mg base := me_reaches T M_Row_reaches
  have M_Row_check_weir : Mdf K (cA K "Row") "check_weir" "Row.check_weir" s_Row_check_weir [] := by
    obtain ⟨fd, F⟩ := c.t.d.def_ 27 (d := d_Row_check_weir) rfl
    exact ⟨_, fd, He.meth_ok (c.t.d.fact 84 (f := .meth "Row" "check_weir") rfl), F⟩
  have h_M_check_weir : M_check_weir P w K mg base := me_check_weir T M_Row_check_weir h_C_is_whole
  have M_Row_with_volumes : Mdf K (cA K "Row") "with_volumes" "Row.with_volumes" s_Row_with_volumes [] := by
    obtain ⟨fd, F⟩ := c.t.d.def_ 28 (d := d_Row_with_volumes) rfl
    exact ⟨_, fd, He.meth_ok (c.t.d.fact 85 (f := .meth "Row" "with_volumes") rfl), F⟩
  have h_M_with_volumes : M_with_volumes P w K mg base := me_with_volumes T M_Row_with_volumes h_C_Row3
  have M_Row_opened : Mdf K (cA K "Row") "opened" "Row.opened" s_Row_opened [.ref (He.dflAt ("Row", some "opened") 0 K)] := by
    obtain ⟨fd, F⟩ := c.t.d.def_ 29 (d := d_Row_opened) rfl
    exact ⟨_, fd, He.meth_ok (c.t.d.fact 86 (f := .meth "Row" "opened") rfl), F⟩
  have h_M_opened3 : M_opened3 P w K mg base := me_opened3 T M_Row_opened h_C_part h_C_plus h_C_minus h_C_times h_M_check_weir h_M_with_volumes
  have h_M_opened2 : M_opened2 P w K mg base (.ref (He.dflAt ("Row", some "opened") 0 K)) := me_opened2 T M_Row_opened h_C_part h_C_plus h_C_minus h_C_times h_M_check_weir h_M_with_volumes
  have D_check_row : Dfn K mg "check_row" s_check_row [] := by
    obtain ⟨fd, F⟩ := c.t.d.def_ 30 (d := d_check_row) rfl
    exact ⟨_, fd, He.glo_ok X G (c.t.d.fact 21 (f := .glo "check_row") rfl), F⟩
  have h_C_check_row : C_check_row P w K mg base := fn_check_row T D_check_row
  have D_check_order : Dfn K mg "check_order" s_check_order [] := by
    obtain ⟨fd, F⟩ := c.t.d.def_ 31 (d := d_check_order) rfl
    exact ⟨_, fd, He.glo_ok X G (c.t.d.fact 22 (f := .glo "check_order") rfl), F⟩
  have h_C_check_order : C_check_order P w K mg base := fn_check_order T D_check_order h_C_is_whole h_M_in
  have D_behind : Dfn K mg "behind" s_behind [] := by
    obtain ⟨fd, F⟩ := c.t.d.def_ 32 (d := d_behind) rfl
    exact ⟨_, fd, He.glo_ok X G (c.t.d.fact 23 (f := .glo "behind") rfl), F⟩
  have h_C_behind : C_behind P w K mg base := fn_behind T D_behind hdO h_C_check_row h_C_check_order h_M_opened2
  have D_stretches : Dfn K mg "stretches" s_stretches [] := by
    obtain ⟨fd, F⟩ := c.t.d.def_ 13 (d := d_stretches) rfl
    exact ⟨_, fd, He.glo_ok X G (c.t.d.fact 13 (f := .glo "stretches") rfl), F⟩
  have h_C_stretches : C_stretches P w K mg base := fn_stretches T D_stretches h_M_len
  have D_stretch_of : Dfn K mg "stretch_of" s_stretch_of [] := by
    obtain ⟨fd, F⟩ := c.t.d.def_ 14 (d := d_stretch_of) rfl
    exact ⟨_, fd, He.glo_ok X G (c.t.d.fact 14 (f := .glo "stretch_of") rfl), F⟩
  have h_C_stretch_of : C_stretch_of P w K mg base := fn_stretch_of T D_stretch_of h_C_stretches
  have D_points_of : Dfn K mg "points_of" s_points_of [] := by
    obtain ⟨fd, F⟩ := c.t.d.def_ 16 (d := d_points_of) rfl
    exact ⟨_, fd, He.glo_ok X G (c.t.d.fact 16 (f := .glo "points_of") rfl), F⟩
  have h_C_points_of : C_points_of P w K mg base := fn_points_of T D_points_of h_M_reaches h_M_sums
  have D_on_line : Dfn K mg "on_line" s_on_line [] := by
    obtain ⟨fd, F⟩ := c.t.d.def_ 15 (d := d_on_line) rfl
    exact ⟨_, fd, He.glo_ok X G (c.t.d.fact 15 (f := .glo "on_line") rfl), F⟩
  have h_C_on_line : C_on_line P w K mg base := fn_on_line T D_on_line h_C_part1 h_C_plus h_C_minus h_C_times h_C_over
  have D_is_flat : Dfn K mg "is_flat" s_is_flat [] := by
    obtain ⟨fd, F⟩ := c.t.d.def_ 18 (d := d_is_flat) rfl
    exact ⟨_, fd, He.glo_ok X G (c.t.d.fact 18 (f := .glo "is_flat") rfl), F⟩
  have h_C_is_flat : C_is_flat P w K mg base := fn_is_flat T D_is_flat h_C_on_line h_C_is_less
  have D_corners : Dfn K mg "corners" s_corners [] := by
    obtain ⟨fd, F⟩ := c.t.d.def_ 17 (d := d_corners) rfl
    exact ⟨_, fd, He.glo_ok X G (c.t.d.fact 17 (f := .glo "corners") rfl), F⟩
  have h_C_corners : C_corners P w K mg base := fn_corners T D_corners h_C_is_flat
  have D_edge_at : Dfn K mg "edge_at" s_edge_at [] := by
    obtain ⟨fd, F⟩ := c.t.d.def_ 19 (d := d_edge_at) rfl
    exact ⟨_, fd, He.glo_ok X G (c.t.d.fact 19 (f := .glo "edge_at") rfl), F⟩
  have h_C_edge_at : C_edge_at P w K mg base := fn_edge_at T D_edge_at h_C_stretch_of h_C_points_of h_C_corners
  have D_check_place : Dfn K mg "check_place" s_check_place [] := by
    obtain ⟨fd, F⟩ := c.t.d.def_ 33 (d := d_check_place) rfl
    exact ⟨_, fd, He.glo_ok X G (c.t.d.fact 24 (f := .glo "check_place") rfl), F⟩
  have h_C_check_place : C_check_place P w K mg base := fn_check_place T D_check_place h_C_check_row h_C_is_whole h_M_len
  have Cd_High : Cdf K mg "High" "Edge.__init__" s_Edge___init__ [] := by
    obtain ⟨fd, F⟩ := c.t.d.def_ 34 (d := d_Edge___init__) rfl
    rw [show He.fAd K d_Edge___init__.at_ = He.ma K (He.ga K "High") "__init__" from e7.symm] at F
    exact ⟨_, fd, He.glo_ok X G (c.t.d.fact 87 (f := .glo "High") rfl), He.mkr_ok (c.t.d.fact 89 (f := .mkr "High") rfl), F⟩
  have h_C_High : C_High P w K mg base := mc_High T Cd_High
  have Cd_Low : Cdf K mg "Low" "Edge.__init__" s_Edge___init__ [] := by
    obtain ⟨fd, F⟩ := c.t.d.def_ 34 (d := d_Edge___init__) rfl
    rw [show He.fAd K d_Edge___init__.at_ = He.ma K (He.ga K "Low") "__init__" from e8.symm] at F
    exact ⟨_, fd, He.glo_ok X G (c.t.d.fact 94 (f := .glo "Low") rfl), He.mkr_ok (c.t.d.fact 96 (f := .mkr "Low") rfl), F⟩
  have h_C_Low : C_Low P w K mg base := mc_Low T Cd_Low
  have D_highest : Dfn K mg "highest" s_highest [] := by
    obtain ⟨fd, F⟩ := c.t.d.def_ 35 (d := d_highest) rfl
    exact ⟨_, fd, He.glo_ok X G (c.t.d.fact 25 (f := .glo "highest") rfl), F⟩
  have h_C_highest : C_highest P w K mg base := fn_highest T D_highest h_C_check_place h_C_edge_at h_C_points_of h_C_on_line h_C_High
  have D_lowest : Dfn K mg "lowest" s_lowest [] := by
    obtain ⟨fd, F⟩ := c.t.d.def_ 36 (d := d_lowest) rfl
    exact ⟨_, fd, He.glo_ok X G (c.t.d.fact 26 (f := .glo "lowest") rfl), F⟩
  have h_C_lowest : C_lowest P w K mg base := fn_lowest T D_lowest h_C_check_place h_C_edge_at h_C_points_of h_C_on_line h_C_Low
  have D_some_of : Dfn K mg "some_of" s_some_of [] := by
    obtain ⟨fd, F⟩ := c.t.d.def_ 37 (d := d_some_of) rfl
    exact ⟨_, fd, He.glo_ok X G (c.t.d.fact 27 (f := .glo "some_of") rfl), F⟩
  have some0 : C_some_of P w K mg base 0 := fn_some_0 T D_some_of
  have some1 : C_some_of P w K mg base 1 := fn_some_S T D_some_of (by decide) some0
  have some2 : C_some_of P w K mg base 2 := fn_some_S T D_some_of (by decide) some1
  have D_locked : Dfn K mg "locked" s_locked [] := by
    obtain ⟨fd, F⟩ := c.t.d.def_ 38 (d := d_locked) rfl
    exact ⟨_, fd, He.glo_ok X G (c.t.d.fact 28 (f := .glo "locked") rfl), F⟩
  have h_C_locked : C_locked P w K mg base := fn_locked T D_locked h_C_Row3
  have D_check_number : Dfn K mg "check_number" s_check_number [] := by
    obtain ⟨fd, F⟩ := c.t.d.def_ 39 (d := d_check_number) rfl
    exact ⟨_, fd, He.glo_ok X G (c.t.d.fact 29 (f := .glo "check_number") rfl), F⟩
  have h_C_check_number : C_check_number P w K mg base := fn_check_number T D_check_number h_C_is_part h_C_as_part
  have D_holds : Dfn K mg "holds" s_holds [] := by
    obtain ⟨fd, F⟩ := c.t.d.def_ 40 (d := d_holds) rfl
    exact ⟨_, fd, He.glo_ok X G (c.t.d.fact 30 (f := .glo "holds") rfl), F⟩
  have h_C_holds : C_holds P w K mg base := fn_holds T D_holds h_C_locked h_C_highest h_C_is_less
  have Cd_Guard : Cdf K mg "Guard" "Guard.__init__" s_Guard___init__ [] := by
    obtain ⟨fd, F⟩ := c.t.d.def_ 41 (d := d_Guard___init__) rfl
    exact ⟨_, fd, He.glo_ok X G (c.t.d.fact 101 (f := .glo "Guard") rfl), He.mkr_ok (c.t.d.fact 103 (f := .mkr "Guard") rfl), F⟩
  have h_C_Guard : C_Guard P w K mg base := mc_Guard T Cd_Guard
  have D_check_choices : Dfn K mg "check_choices" s_check_choices [] := by
    obtain ⟨fd, F⟩ := c.t.d.def_ 42 (d := d_check_choices) rfl
    exact ⟨_, fd, He.glo_ok X G (c.t.d.fact 31 (f := .glo "check_choices") rfl), F⟩
  have h_C_check_choices : C_check_choices P w K mg base := fn_check_choices T D_check_choices h_C_check_row h_C_is_whole h_M_in
  have D_fewer_than : Dfn K mg "fewer_than" s_fewer_than [] := by
    obtain ⟨fd, F⟩ := c.t.d.def_ 43 (d := d_fewer_than) rfl
    exact ⟨_, fd, He.glo_ok X G (c.t.d.fact 32 (f := .glo "fewer_than") rfl), F⟩
  have h_C_fewer_than : C_fewer_than P w K mg base := fn_fewer_than T D_fewer_than some2
  have D_guards : Dfn K mg "guards" s_guards [] := by
    obtain ⟨fd, F⟩ := c.t.d.def_ 44 (d := d_guards) rfl
    exact ⟨_, fd, He.glo_ok X G (c.t.d.fact 33 (f := .glo "guards") rfl), F⟩
  have h_C_guards : C_guards P w K mg base := fn_guards T D_guards h_C_check_choices h_C_check_place h_C_check_number some2 h_C_holds h_C_fewer_than h_C_locked h_C_highest h_C_Guard
  have D_runs : Dfn K mg "runs" s_runs [] := by
    obtain ⟨fd, F⟩ := c.t.d.def_ 45 (d := d_runs) rfl
    exact ⟨_, fd, He.glo_ok X G (c.t.d.fact 34 (f := .glo "runs") rfl), F⟩
  have h_C_runs : C_runs P w K mg base := fn_runs T D_runs h_C_check_row h_C_check_order h_M_len
  have D_limit : Dfn K mg "limit" s_limit [] := by
    obtain ⟨fd, F⟩ := c.t.d.def_ 46 (d := d_limit) rfl
    exact ⟨_, fd, He.glo_ok X G (c.t.d.fact 35 (f := .glo "limit") rfl), F⟩
  have h_C_limit : C_limit P w K mg base := fn_limit T D_limit h_C_runs h_C_total h_C_part1 h_C_over h_C_times h_M_with_volumes
  have D_evened : Dfn K mg "evened" s_evened [] := by
    obtain ⟨fd, F⟩ := c.t.d.def_ 49 (d := d_evened) rfl
    exact ⟨_, fd, He.glo_ok X G (c.t.d.fact 38 (f := .glo "evened") rfl), F⟩
  have h_C_evened : C_evened P w K mg base := fn_evened T D_evened h_C_part h_C_plus h_C_times
  have D_layers : Dfn K mg "layers" s_layers [] := by
    obtain ⟨fd, F⟩ := c.t.d.def_ 48 (d := d_layers) rfl
    exact ⟨_, fd, He.glo_ok X G (c.t.d.fact 37 (f := .glo "layers") rfl), F⟩
  have h_C_layers : C_layers P w K mg base := fn_layers T D_layers h_M_len h_M_weirs h_C_part1 h_C_evened
  have D_worth : Dfn K mg "worth" s_worth [] := by
    obtain ⟨fd, F⟩ := c.t.d.def_ 50 (d := d_worth) rfl
    exact ⟨_, fd, He.glo_ok X G (c.t.d.fact 39 (f := .glo "worth") rfl), F⟩
  have h_C_worth : C_worth P w K mg base := fn_worth T D_worth h_C_total h_C_times
  have D_check_many : Dfn K mg "check_many" s_check_many [] := by
    obtain ⟨fd, F⟩ := c.t.d.def_ 47 (d := d_check_many) rfl
    exact ⟨_, fd, He.glo_ok X G (c.t.d.fact 36 (f := .glo "check_many") rfl), F⟩
  have h_C_check_many : C_check_many P w K mg base := fn_check_many T D_check_many h_C_is_whole
  have Cd_Best : Cdf K mg "Best" "Best.__init__" s_Best___init__ [] := by
    obtain ⟨fd, F⟩ := c.t.d.def_ 51 (d := d_Best___init__) rfl
    exact ⟨_, fd, He.glo_ok X G (c.t.d.fact 107 (f := .glo "Best") rfl), He.mkr_ok (c.t.d.fact 109 (f := .mkr "Best") rfl), F⟩
  have h_C_Best : C_Best P w K mg base := mc_Best T Cd_Best
  have D_best : Dfn K mg "best" s_best [] := by
    obtain ⟨fd, F⟩ := c.t.d.def_ 52 (d := d_best) rfl
    exact ⟨_, fd, He.glo_ok X G (c.t.d.fact 40 (f := .glo "best") rfl), F⟩
  have h_C_best : C_best P w K mg base := fn_best T D_best h_C_check_place h_C_check_many h_M_sums h_C_layers h_C_worth h_C_is_less h_C_Best
  have D_poured : Dfn K mg "poured" s_poured [] := by
    obtain ⟨fd, F⟩ := c.t.d.def_ 53 (d := d_poured) rfl
    exact ⟨_, fd, He.glo_ok X G (c.t.d.fact 41 (f := .glo "poured") rfl), F⟩
  have h_C_poured : C_poured P w K mg base := fn_poured T D_poured h_C_check_row h_C_is_whole h_M_in h_C_is_part h_C_as_part h_C_is_less h_M_opened3
  have Cd_Coast : Cdf K mg "Coast" "Coast.__init__" s_Coast___init__ [.non, .non] := by
    obtain ⟨fd, F⟩ := c.t.d.def_ 54 (d := d_Coast___init__) rfl
    exact ⟨_, fd, He.glo_ok X G (c.t.d.fact 113 (f := .glo "Coast") rfl), He.mkr_ok (c.t.d.fact 115 (f := .mkr "Coast") rfl), F⟩
  have h_C_Coast3 : C_Coast3 P w K mg base := mc_Coast3 T Cd_Coast h_C_check_row h_C_is_part h_C_as_part
  have h_C_Coast2 : C_Coast2 P w K mg base := mc_Coast2 T Cd_Coast h_C_check_row h_C_is_part h_C_as_part
  have M_Coast___contains__ : Mdf K (cA K "Coast") "__contains__" "Coast.__contains__" s_Coast___contains__ [] := by
    obtain ⟨fd, F⟩ := c.t.d.def_ 55 (d := d_Coast___contains__) rfl
    exact ⟨_, fd, He.meth_ok (c.t.d.fact 120 (f := .meth "Coast" "__contains__") rfl), F⟩
  have h_M_cin : M_cin P w K mg base := me_cin T M_Coast___contains__ h_M_len h_M_in
  have M_Coast_opened : Mdf K (cA K "Coast") "opened" "Coast.opened" s_Coast_opened [] := by
    obtain ⟨fd, F⟩ := c.t.d.def_ 56 (d := d_Coast_opened) rfl
    exact ⟨_, fd, He.meth_ok (c.t.d.fact 121 (f := .meth "Coast" "opened") rfl), F⟩
  have h_M_copened : M_copened P w K mg base := me_copened T M_Coast_opened hdO h_M_len h_C_part1 h_C_times h_M_opened2 h_M_with_volumes h_C_Coast3
  have D_check_coast : Dfn K mg "check_coast" s_check_coast [] := by
    obtain ⟨fd, F⟩ := c.t.d.def_ 57 (d := d_check_coast) rfl
    exact ⟨_, fd, He.glo_ok X G (c.t.d.fact 42 (f := .glo "check_coast") rfl), F⟩
  have h_C_check_coast : C_check_coast P w K mg base := fn_check_coast T D_check_coast
  have D_check_coast_order : Dfn K mg "check_coast_order" s_check_coast_order [] := by
    obtain ⟨fd, F⟩ := c.t.d.def_ 58 (d := d_check_coast_order) rfl
    exact ⟨_, fd, He.glo_ok X G (c.t.d.fact 43 (f := .glo "check_coast_order") rfl), F⟩
  have h_C_check_coast_order : C_check_coast_order P w K mg base := fn_check_coast_order T D_check_coast_order h_C_check_coast h_C_is_whole h_M_cin
  have D_after : Dfn K mg "after" s_after [] := by
    obtain ⟨fd, F⟩ := c.t.d.def_ 59 (d := d_after) rfl
    exact ⟨_, fd, He.glo_ok X G (c.t.d.fact 44 (f := .glo "after") rfl), F⟩
  have h_C_after : C_after P w K mg base := fn_after T D_after h_C_check_coast_order h_M_copened
  have D_with_volumes : Dfn K mg "with_volumes" s_with_volumes [] := by
    obtain ⟨fd, F⟩ := c.t.d.def_ 60 (d := d_with_volumes) rfl
    exact ⟨_, fd, He.glo_ok X G (c.t.d.fact 45 (f := .glo "with_volumes") rfl), F⟩
  have h_C_with_volumes : C_with_volumes P w K mg base := fn_with_volumes T D_with_volumes h_M_with_volumes h_C_Coast3
  have D_rounds_map : Dfn K mg "rounds_map" s_rounds_map [] := by
    obtain ⟨fd, F⟩ := c.t.d.def_ 61 (d := d_rounds_map) rfl
    exact ⟨_, fd, He.glo_ok X G (c.t.d.fact 46 (f := .glo "rounds_map") rfl), F⟩
  have h_C_rounds_map : C_rounds_map P w K mg base := fn_rounds_map T D_rounds_map h_M_len h_C_after h_C_with_volumes h_C_minus
  have D_solved : Dfn K mg "solved" s_solved [] := by
    obtain ⟨fd, F⟩ := c.t.d.def_ 62 (d := d_solved) rfl
    exact ⟨_, fd, He.glo_ok X G (c.t.d.fact 47 (f := .glo "solved") rfl), F⟩
  have h_C_solved : C_solved P w K mg base := fn_solved T D_solved h_C_over h_C_minus h_C_times
  have D_inflow : Dfn K mg "inflow" s_inflow [] := by
    obtain ⟨fd, F⟩ := c.t.d.def_ 66 (d := d_inflow) rfl
    exact ⟨_, fd, He.glo_ok X G (c.t.d.fact 50 (f := .glo "inflow") rfl), F⟩
  have h_C_inflow : C_inflow P w K mg base := fn_inflow T D_inflow h_M_copened h_C_plus h_C_minus
  have D_is_washed : Dfn K mg "is_washed" s_is_washed [] := by
    obtain ⟨fd, F⟩ := c.t.d.def_ 63 (d := d_is_washed) rfl
    exact ⟨_, fd, He.glo_ok X G (c.t.d.fact 48 (f := .glo "is_washed") rfl), F⟩
  have h_C_is_washed : C_is_washed P w K mg base := fn_is_washed T D_is_washed h_M_len
  have Cd_Cycle : Cdf K mg "Cycle" "Cycle.__init__" s_Cycle___init__ [] := by
    obtain ⟨fd, F⟩ := c.t.d.def_ 64 (d := d_Cycle___init__) rfl
    exact ⟨_, fd, He.glo_ok X G (c.t.d.fact 122 (f := .glo "Cycle") rfl), He.mkr_ok (c.t.d.fact 124 (f := .mkr "Cycle") rfl), F⟩
  have h_C_Cycle : C_Cycle P w K mg base := mc_Cycle T Cd_Cycle
  have D_check_washed : Dfn K mg "check_washed" s_check_washed [] := by
    obtain ⟨fd, F⟩ := c.t.d.def_ 65 (d := d_check_washed) rfl
    exact ⟨_, fd, He.glo_ok X G (c.t.d.fact 49 (f := .glo "check_washed") rfl), F⟩
  have h_C_check_washed : C_check_washed P w K mg base := fn_check_washed T D_check_washed h_C_check_coast_order h_C_is_washed
  have D_cycle : Dfn K mg "cycle" s_cycle [] := by
    obtain ⟨fd, F⟩ := c.t.d.def_ 67 (d := d_cycle) rfl
    exact ⟨_, fd, He.glo_ok X G (c.t.d.fact 51 (f := .glo "cycle") rfl), F⟩
  have h_C_cycle : C_cycle P w K mg base := fn_cycle T D_cycle h_M_len h_C_check_washed h_C_rounds_map h_C_minus h_C_solved h_C_Cycle h_C_inflow h_C_with_volumes
  have D_sea_line : Dfn K mg "sea_line" s_sea_line [] := by
    obtain ⟨fd, F⟩ := c.t.d.def_ 68 (d := d_sea_line) rfl
    exact ⟨_, fd, He.glo_ok X G (c.t.d.fact 52 (f := .glo "sea_line") rfl), F⟩
  have h_C_sea_line : C_sea_line P w K mg base := fn_sea_line T D_sea_line h_M_reaches h_M_sums
  have D_bent : Dfn K mg "bent" s_bent [] := by
    obtain ⟨fd, F⟩ := c.t.d.def_ 70 (d := d_bent) rfl
    exact ⟨_, fd, He.glo_ok X G (c.t.d.fact 54 (f := .glo "bent") rfl), F⟩
  have h_C_bent : C_bent P w K mg base := fn_bent T D_bent h_C_part1 h_C_minus h_C_times h_C_over h_C_greatest h_C_least
  have D_far_bounds : Dfn K mg "far_bounds" s_far_bounds [] := by
    obtain ⟨fd, F⟩ := c.t.d.def_ 69 (d := d_far_bounds) rfl
    exact ⟨_, fd, He.glo_ok X G (c.t.d.fact 53 (f := .glo "far_bounds") rfl), F⟩
  have h_C_far_bounds : C_far_bounds P w K mg base := fn_far_bounds T D_far_bounds h_C_check_coast h_C_is_whole h_M_len h_M_sums h_C_sea_line h_C_bent h_C_minus
  have D__law_number : Dfn K mg "_law_number" s__law_number [] := by
    obtain ⟨fd, F⟩ := c.t.d.def_ 71 (d := d__law_number) rfl
    exact ⟨_, fd, He.glo_ok X G (c.t.d.fact 55 (f := .glo "_law_number") rfl), F⟩
  have h_C__law_number : C__law_number P w K mg base := fn__law_number T D__law_number
  have D__law_take : Dfn K mg "_law_take" s__law_take [] := by
    obtain ⟨fd, F⟩ := c.t.d.def_ 72 (d := d__law_take) rfl
    exact ⟨_, fd, He.glo_ok X G (c.t.d.fact 56 (f := .glo "_law_take") rfl), F⟩
  have h_C__law_take : C__law_take P w K mg base := fn__law_take T D__law_take h_C__law_number
  have D__law_pick : Dfn K mg "_law_pick" s__law_pick [] := by
    obtain ⟨fd, F⟩ := c.t.d.def_ 73 (d := d__law_pick) rfl
    exact ⟨_, fd, He.glo_ok X G (c.t.d.fact 57 (f := .glo "_law_pick") rfl), F⟩
  have h_C__law_pick : C__law_pick P w K mg base := fn__law_pick T D__law_pick h_C__law_take
  have D__law_drawn : Dfn K mg "_law_drawn" s__law_drawn [] := by
    obtain ⟨fd, F⟩ := c.t.d.def_ 80 (d := d__law_drawn) rfl
    exact ⟨_, fd, He.glo_ok X G (c.t.d.fact 64 (f := .glo "_law_drawn") rfl), F⟩
  have h_C__law_drawn : C__law_drawn P w K mg base := fn__law_drawn T D__law_drawn h_C__law_take h_C__law_pick
  have D__law_parts_of : Dfn K mg "_law_parts_of" s__law_parts_of [] := by
    obtain ⟨fd, F⟩ := c.t.d.def_ 81 (d := d__law_parts_of) rfl
    exact ⟨_, fd, He.glo_ok X G (c.t.d.fact 65 (f := .glo "_law_parts_of") rfl), F⟩
  have h_C__law_parts_of : C__law_parts_of P w K mg base := fn__law_parts_of T D__law_parts_of
  have D__law_sums : Dfn K mg "_law_sums" s__law_sums [] := by
    obtain ⟨fd, F⟩ := c.t.d.def_ 82 (d := d__law_sums) rfl
    exact ⟨_, fd, He.glo_ok X G (c.t.d.fact 66 (f := .glo "_law_sums") rfl), F⟩
  have h_C__law_sums : C__law_sums P w K mg base := fn__law_sums T D__law_sums h_C__law_plus
  have D__law_order : Dfn K mg "_law_order" s__law_order [] := by
    obtain ⟨fd, F⟩ := c.t.d.def_ 83 (d := d__law_order) rfl
    exact ⟨_, fd, He.glo_ok X G (c.t.d.fact 67 (f := .glo "_law_order") rfl), F⟩
  have h_C__law_order : C__law_order P w K mg base := fn__law_order T D__law_order h_C__law_pick
  have D__law_is_over : Dfn K mg "_law_is_over" s__law_is_over [] := by
    obtain ⟨fd, F⟩ := c.t.d.def_ 85 (d := d__law_is_over) rfl
    exact ⟨_, fd, He.glo_ok X G (c.t.d.fact 69 (f := .glo "_law_is_over") rfl), F⟩
  have h_C__law_is_over : C__law_is_over P w K mg base := fn__law_is_over T D__law_is_over h_C__law_less
  have D__law_taken : Dfn K mg "_law_taken" s__law_taken [] := by
    obtain ⟨fd, F⟩ := c.t.d.def_ 84 (d := d__law_taken) rfl
    exact ⟨_, fd, He.glo_ok X G (c.t.d.fact 68 (f := .glo "_law_taken") rfl), F⟩
  have h_C__law_taken : C__law_taken P w K mg base := fn__law_taken T D__law_taken h_C__law_take h_C__law_pick h_C__law_plus h_C__law_minus h_C__law_times
  have D__law_seas_right : Dfn K mg "_law_seas_right" s__law_seas_right [] := by
    obtain ⟨fd, F⟩ := c.t.d.def_ 86 (d := d__law_seas_right) rfl
    exact ⟨_, fd, He.glo_ok X G (c.t.d.fact 70 (f := .glo "_law_seas_right") rfl), F⟩
  have h_C__law_seas_right : C__law_seas_right P w K mg base := fn__law_seas_right T D__law_seas_right hdR h_C_Row2 h_C_Coast3 h_C_Coast2 h_C__law_take h_C__law_pick h_C__law_plus h_C__law_minus h_C__law_less h_C__law_is_over h_C__law_sums h_C_after h_C_cycle h_C_far_bounds h_C_inflow
  exact ok_law T FL h_C_Row3 h_M_weirs h_M_sums h_C__law_drawn h_C__law_parts_of h_C__law_taken h_C__law_order h_C__law_take h_C__law_pick h_C__law_plus h_C__law_is_over h_C_behind h_C_poured h_C_limit h_C_highest h_C_lowest h_C_best h_C_guards h_C__law_seas_right
theorem sp_law {P : Program} {w : World} {K : PySem.W.Frag} {H : Hp} {a : Addr} {ns : List Int} (hl : ns.length ≤ 63) (hS : SqL K H a (ns.map V.int)) (E : XK) : SpP ⟨P, w, K⟩ RLaw [.ref a] H (fun v _ => v = .bl true) E :=
  ⟨H, [.scr ns], .bl true, Ex.refl _, ⟨_, _, rfl, ⟨a, rfl, hS⟩, rfl⟩, ⟨ns, rfl, hl, rfl⟩, fun v _ _ _ r => r⟩
end WL
set_option Elab.async false
set_option linter.all false
set_option maxRecDepth 100000
set_option maxHeartbeats 0
open PySem PySem.W PySem.Calls PyProof.Rows
theorem PySem.Challenge.cw_weirlines_k65_whole_more_ahead_holds : PySem.Challenge.rw_weirlines_k65_whole_more_ahead.Holds := by
  w_on; o_law
  refine HandSHeadRun.head_any (r := OpenLaw.row PySem.Challenge.rw_weirlines_k65_whole_more_ahead) (q := WL.qv) (H := WL.hk) (ob := WL.ob) (M := 30000) (loose := WL.loose) (d := HandSHeadRun.topDef (OpenLaw.row PySem.Challenge.rw_weirlines_k65_whole_more_ahead).prog 106) (kwd := []) WL.ob_eq
    (by kernel_rfl) (fun s => by kernel_rfl) WL.run (by kernel_rfl) (by kernel_rfl) (by kernel_rfl) (by rfl) (by first | assumption | decide +kernel) (by decide +kernel) ⟨rfl, rfl, rfl, rfl, rfl, by decide +kernel⟩ ?hw ?hc
  case hw => w_witness2
  case hc =>
    refine L2.walk_ofE (l := PySem.Challenge.rw_weirlines_k65_whole_more_ahead) (n := 63) (k := 13) (x := "_law_script") (CX := L2.CX0) rfl (by decide) (by kernel_rfl) ⟨rfl, by decide, by decide⟩ ?F (fun _ _ _ _ z => z)
    intro w mg fa h Y G hmg0
    obtain ⟨K, KX, c⟩ := Y
    have hmg : mg ("law" : PySem.Str) = some (.ref fa) := by
      have e : (HandSHeadRun.topDef (OpenLaw.row PySem.Challenge.rw_weirlines_k65_whole_more_ahead).prog 106).name = ("law" : PySem.Str) := by kernel_rfl
      rw [← e]
      exact hmg0
    obtain ⟨fd, hb, hF⟩ := WL.facts (P := (PySem.Challenge.rw_weirlines_k65_whole_more_ahead).prog) (w := w) KX G hmg c
    exact ⟨K, fd, WL.SpP ⟨(PySem.Challenge.rw_weirlines_k65_whole_more_ahead).prog, w, K⟩ WL.RLaw, KX, hb, fun H a ns hl _ hS => WL.sp_law hl hS _, hF⟩
