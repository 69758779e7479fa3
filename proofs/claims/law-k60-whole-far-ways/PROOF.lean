import PyProof.Rows.All
import Wide.All
import OpenK.AllK
import Wide.FinOn
import HandS.ForMost
import KE.KStateDown
import Lean
import HandS.Base
import HandS.Call
import HandS.Ends
import HandS.More
import HandS.Words
import HandS.WordsExc
import HandS.Defaults
import HandS.Head0
import HandS.Head1
import HandS.Head2
import HandS.HeadEnd
import HandS.HeadHook1
import HandS.HeadHook2
import HandS.HeadNt
import HandS.Strs
import HandS.SetBool
import HandS.SetFor
import HandS.Wide
import HandS.Small
import KE.KeyNested
import HandS.Walk
import HandS.TupLen
import HandS.Style
import HandS.SortRule
import HandS.TupAny
import HandS.IsInst
import HandS.SlotsOwn
import KE.KOpsOwn
import PyProof.InstEq
import HandS.CallLocal
import HandS.ClsMeth
import HandS.Star
import KE.LtData
import KE.DataCmp
import KE.DataMinMax
import KE.KDictDisplayH
import KE.KDictPairs
import HandS.NoneIn
import HandS.TupSets
import HandS.RaiseMore
import PySem.Challenge.RW_boxregions_k60_whole_far_ways
set_option Elab.async false
set_option linter.all false
set_option maxRecDepth 100000
set_option maxHeartbeats 4000000
/-! BrT: the text by places; the names of each def by slot. -/
namespace BR
open PySem PySem.Spec PyProof.Rows L2
def topS (i : Nat) : Stmt := PySem.Challenge.pw_boxregions_k60_whole_far_ways.main.body.getD i (.Pass ⟨0, 0, 0, 0⟩)
/-! merged: 0 pairs 1 found 2 a 3 b -/
abbrev s_merged : Stmt := topS 9
abbrev n_merged : List Str := ["pairs", "found", "a", "b"]
theorem sc_merged : FnScope n_merged ["pairs"] (defScope s_merged) := ⟨rfl, rfl, rfl, by decide +kernel, rfl, by decide +kernel, by decide +kernel⟩
/-! is_covered: 0 spans 1 number 2 a 3 b (cells: number) -/
abbrev s_is_covered : Stmt := topS 10
abbrev n_is_covered : List Str := ["spans", "number", "a", "b"]
theorem sc_is_covered : FnScope n_is_covered ["spans", "number"] (defScope s_is_covered) := ⟨rfl, rfl, rfl, by decide +kernel, rfl, by decide +kernel, by decide +kernel⟩
/-! is_wanted: 0 in_one 1 in_other 2 word -/
abbrev s_is_wanted : Stmt := topS 11
abbrev n_is_wanted : List Str := ["in_one", "in_other", "word"]
theorem sc_is_wanted : FnScope n_is_wanted ["in_one", "in_other", "word"] (defScope s_is_wanted) := ⟨rfl, rfl, rfl, by decide +kernel, rfl, by decide +kernel, by decide +kernel⟩
/-! combined: 0 one 1 other 2 word 3 ends 4 found 5 a 6 b 7 span 8 end -/
abbrev s_combined : Stmt := topS 12
abbrev n_combined : List Str := ["one", "other", "word", "ends", "found", "a", "b", "span", "end"]
theorem sc_combined : FnScope n_combined ["one", "other", "word"] (defScope s_combined) := ⟨rfl, rfl, rfl, by decide +kernel, rfl, by decide +kernel, by decide +kernel⟩
/-! holds_span: 0 spans 1 span 2 a 3 b (cells: span) -/
abbrev s_holds_span : Stmt := topS 13
abbrev n_holds_span : List Str := ["spans", "span", "a", "b"]
theorem sc_holds_span : FnScope n_holds_span ["spans", "span"] (defScope s_holds_span) := ⟨rfl, rfl, rfl, by decide +kernel, rfl, by decide +kernel, by decide +kernel⟩
/-! spans_at: 0 slabs 1 x 2 x1 3 x2 4 spans -/
abbrev s_spans_at : Stmt := topS 15
abbrev n_spans_at : List Str := ["slabs", "x", "x1", "x2", "spans"]
theorem sc_spans_at : FnScope n_spans_at ["slabs", "x"] (defScope s_spans_at) := ⟨rfl, rfl, rfl, by decide +kernel, rfl, by decide +kernel, by decide +kernel⟩
/-! tidy: 0 slabs 1 found 2 x1 3 x2 4 spans -/
abbrev s_tidy : Stmt := topS 16
abbrev n_tidy : List Str := ["slabs", "found", "x1", "x2", "spans"]
theorem sc_tidy : FnScope n_tidy ["slabs"] (defScope s_tidy) := ⟨rfl, rfl, rfl, by decide +kernel, rfl, by decide +kernel, by decide +kernel⟩
/-! cuts_of: 0 slabs 1 x1 2 x2 3 spans 4 x -/
abbrev s_cuts_of : Stmt := topS 17
abbrev n_cuts_of : List Str := ["slabs", "x1", "x2", "spans", "x"]
theorem sc_cuts_of : FnScope n_cuts_of ["slabs"] (defScope s_cuts_of) := ⟨rfl, rfl, rfl, by decide +kernel, rfl, by decide +kernel, by decide +kernel⟩
/-! slabs_of: 0 boxes 1 cuts 2 found 3 a 4 b 5 spans 6 x1 7 y1 8 x2 9 y2 10 x (cells: a) -/
abbrev s_slabs_of : Stmt := topS 18
abbrev n_slabs_of : List Str := ["boxes", "cuts", "found", "a", "b", "spans", "x1", "y1", "x2", "y2", "x"]
theorem sc_slabs_of : FnScope n_slabs_of ["boxes"] (defScope s_slabs_of) := ⟨rfl, rfl, rfl, by decide +kernel, rfl, by decide +kernel, by decide +kernel⟩
/-! boxes_of: 0 slabs 1 x1 2 x2 3 spans 4 y1 5 y2 -/
abbrev s_boxes_of : Stmt := topS 19
abbrev n_boxes_of : List Str := ["slabs", "x1", "x2", "spans", "y1", "y2"]
theorem sc_boxes_of : FnScope n_boxes_of ["slabs"] (defScope s_boxes_of) := ⟨rfl, rfl, rfl, by decide +kernel, rfl, by decide +kernel, by decide +kernel⟩
/-! mixed: 0 one 1 other 2 word 3 cuts 4 found 5 a 6 b -/
abbrev s_mixed : Stmt := topS 20
abbrev n_mixed : List Str := ["one", "other", "word", "cuts", "found", "a", "b"]
theorem sc_mixed : FnScope n_mixed ["one", "other", "word"] (defScope s_mixed) := ⟨rfl, rfl, rfl, by decide +kernel, rfl, by decide +kernel, by decide +kernel⟩
/-! frame_of: 0 slabs 1 least 2 greatest 3 x1 4 x2 5 spans -/
abbrev s_frame_of : Stmt := topS 21
abbrev n_frame_of : List Str := ["slabs", "least", "greatest", "x1", "x2", "spans"]
theorem sc_frame_of : FnScope n_frame_of ["slabs"] (defScope s_frame_of) := ⟨rfl, rfl, rfl, by decide +kernel, rfl, by decide +kernel, by decide +kernel⟩
/-! is_integer: 0 thing -/
abbrev s_is_integer : Stmt := topS 27
abbrev n_is_integer : List Str := ["thing"]
theorem sc_is_integer : FnScope n_is_integer ["thing"] (defScope s_is_integer) := ⟨rfl, rfl, rfl, by decide +kernel, rfl, by decide +kernel, by decide +kernel⟩
/-! are_integers: 0 thing 1 count 2 number -/
abbrev s_are_integers : Stmt := topS 28
abbrev n_are_integers : List Str := ["thing", "count", "number"]
theorem sc_are_integers : FnScope n_are_integers ["thing", "count"] (defScope s_are_integers) := ⟨rfl, rfl, rfl, by decide +kernel, rfl, by decide +kernel, by decide +kernel⟩
/-! is_square: 0 thing -/
abbrev s_is_square : Stmt := topS 29
abbrev n_is_square : List Str := ["thing"]
theorem sc_is_square : FnScope n_is_square ["thing"] (defScope s_is_square) := ⟨rfl, rfl, rfl, by decide +kernel, rfl, by decide +kernel, by decide +kernel⟩
/-! is_box: 0 thing -/
abbrev s_is_box : Stmt := topS 30
abbrev n_is_box : List Str := ["thing"]
theorem sc_is_box : FnScope n_is_box ["thing"] (defScope s_is_box) := ⟨rfl, rfl, rfl, by decide +kernel, rfl, by decide +kernel, by decide +kernel⟩
/-! check_square: 0 square -/
abbrev s_check_square : Stmt := topS 31
abbrev n_check_square : List Str := ["square"]
theorem sc_check_square : FnScope n_check_square ["square"] (defScope s_check_square) := ⟨rfl, rfl, rfl, by decide +kernel, rfl, by decide +kernel, by decide +kernel⟩
/-! check_box: 0 box -/
abbrev s_check_box : Stmt := topS 32
abbrev n_check_box : List Str := ["box"]
theorem sc_check_box : FnScope n_check_box ["box"] (defScope s_check_box) := ⟨rfl, rfl, rfl, by decide +kernel, rfl, by decide +kernel, by decide +kernel⟩
/-! check_region: 0 region -/
abbrev s_check_region : Stmt := topS 33
abbrev n_check_region : List Str := ["region"]
theorem sc_check_region : FnScope n_check_region ["region"] (defScope s_check_region) := ⟨rfl, rfl, rfl, by decide +kernel, rfl, by decide +kernel, by decide +kernel⟩
/-! united: 0 one 1 other -/
abbrev s_united : Stmt := topS 35
abbrev n_united : List Str := ["one", "other"]
theorem sc_united : FnScope n_united ["one", "other"] (defScope s_united) := ⟨rfl, rfl, rfl, by decide +kernel, rfl, by decide +kernel, by decide +kernel⟩
/-! turned_out: 0 region -/
abbrev s_turned_out : Stmt := topS 36
abbrev n_turned_out : List Str := ["region"]
theorem sc_turned_out : FnScope n_turned_out ["region"] (defScope s_turned_out) := ⟨rfl, rfl, rfl, by decide +kernel, rfl, by decide +kernel, by decide +kernel⟩
/-! Region.__init__: 0 self 1 form 2 is_outside -/
abbrev s_R_init : Stmt := inClass (topS 37) 0
abbrev n_R_init : List Str := ["self", "form", "is_outside"]
theorem sc_R_init : FnScope n_R_init ["self", "form", "is_outside"] (defScope s_R_init) := ⟨rfl, rfl, rfl, by decide +kernel, rfl, by decide +kernel, by decide +kernel⟩
/-! Region.of: 0 cls 1 boxes 2 box -/
abbrev s_R_of : Stmt := inClass (topS 37) 1
abbrev n_R_of : List Str := ["cls", "boxes", "box"]
theorem sc_R_of : FnScope n_R_of ["cls", "boxes"] (defScope s_R_of) := ⟨rfl, rfl, rfl, by decide +kernel, rfl, by decide +kernel, by decide +kernel⟩
/-! Region.empty:  -/
abbrev s_R_empty : Stmt := inClass (topS 37) 2
abbrev n_R_empty : List Str := []
theorem sc_R_empty : FnScope n_R_empty [] (defScope s_R_empty) := ⟨rfl, rfl, rfl, by decide +kernel, rfl, by decide +kernel, by decide +kernel⟩
/-! Region.__or__: 0 self 1 other -/
abbrev s_R_or : Stmt := inClass (topS 37) 9
abbrev n_R_or : List Str := ["self", "other"]
theorem sc_R_or : FnScope n_R_or ["self", "other"] (defScope s_R_or) := ⟨rfl, rfl, rfl, by decide +kernel, rfl, by decide +kernel, by decide +kernel⟩
/-! Region.__invert__: 0 self -/
abbrev s_R_invert : Stmt := inClass (topS 37) 13
abbrev n_R_invert : List Str := ["self"]
theorem sc_R_invert : FnScope n_R_invert ["self"] (defScope s_R_invert) := ⟨rfl, rfl, rfl, by decide +kernel, rfl, by decide +kernel, by decide +kernel⟩
/-! Region.__contains__: 0 self 1 square -/
abbrev s_R_contains : Stmt := inClass (topS 37) 16
abbrev n_R_contains : List Str := ["self", "square"]
theorem sc_R_contains : FnScope n_R_contains ["self", "square"] (defScope s_R_contains) := ⟨rfl, rfl, rfl, by decide +kernel, rfl, by decide +kernel, by decide +kernel⟩
/-! Region.__eq__: 0 self 1 other -/
abbrev s_R_eq : Stmt := inClass (topS 37) 18
abbrev n_R_eq : List Str := ["self", "other"]
theorem sc_R_eq : FnScope n_R_eq ["self", "other"] (defScope s_R_eq) := ⟨rfl, rfl, rfl, by decide +kernel, rfl, by decide +kernel, by decide +kernel⟩
/-! check_flag: 0 corners -/
abbrev s_check_flag : Stmt := topS 39
abbrev n_check_flag : List Str := ["corners"]
theorem sc_check_flag : FnScope n_check_flag ["corners"] (defScope s_check_flag) := ⟨rfl, rfl, rfl, by decide +kernel, rfl, by decide +kernel, by decide +kernel⟩
/-! are_linked: 0 one 1 other 2 corners 3 low 4 high -/
abbrev s_are_linked : Stmt := topS 40
abbrev n_are_linked : List Str := ["one", "other", "corners", "low", "high"]
theorem sc_are_linked : FnScope n_are_linked ["one", "other", "corners"] (defScope s_are_linked) := ⟨rfl, rfl, rfl, by decide +kernel, rfl, by decide +kernel, by decide +kernel⟩
/-! groups_of: 0 boxes 1 corners 2 found 3 left 4 group 5 at 6 box (cells: corners group at) -/
abbrev s_groups_of : Stmt := topS 41
abbrev n_groups_of : List Str := ["boxes", "corners", "found", "left", "group", "at", "box"]
theorem sc_groups_of : FnScope n_groups_of ["boxes", "corners"] (defScope s_groups_of) := ⟨rfl, rfl, rfl, by decide +kernel, rfl, by decide +kernel, by decide +kernel⟩
/-! wide_frame: 0 form 1 x1 2 y1 3 x2 4 y2 -/
abbrev s_wide_frame : Stmt := topS 42
abbrev n_wide_frame : List Str := ["form", "x1", "y1", "x2", "y2"]
theorem sc_wide_frame : FnScope n_wide_frame ["form"] (defScope s_wide_frame) := ⟨rfl, rfl, rfl, by decide +kernel, rfl, by decide +kernel, by decide +kernel⟩
/-! part_regions: 0 region 1 corners 2 group 3 window 4 found 5 far 6 own -/
abbrev s_part_regions : Stmt := topS 43
abbrev n_part_regions : List Str := ["region", "corners", "group", "window", "found", "far", "own"]
theorem sc_part_regions : FnScope n_part_regions ["region", "corners"] (defScope s_part_regions) := ⟨rfl, rfl, rfl, by decide +kernel, rfl, by decide +kernel, by decide +kernel⟩
/-! part_with: 0 region 1 square 2 corners 3 found 4 part (cells: square) -/
abbrev s_part_with : Stmt := topS 44
abbrev n_part_with : List Str := ["region", "square", "corners", "found", "part"]
theorem sc_part_with : FnScope n_part_with ["region", "square", "corners"] (defScope s_part_with) := ⟨rfl, rfl, rfl, by decide +kernel, rfl, by decide +kernel, by decide +kernel⟩
/-! part_of: 0 region 1 square 2 corners -/
abbrev s_part_of : Stmt := topS 45
abbrev n_part_of : List Str := ["region", "square", "corners"]
theorem sc_part_of : FnScope n_part_of ["region", "square", "corners"] (defScope s_part_of) := ⟨rfl, rfl, rfl, by decide +kernel, rfl, by decide +kernel, by decide +kernel⟩
/-! check_ends: 0 region 1 start 2 goal 3 square -/
abbrev s_check_ends : Stmt := topS 47
abbrev n_check_ends : List Str := ["region", "start", "goal", "square"]
theorem sc_check_ends : FnScope n_check_ends ["region", "start", "goal"] (defScope s_check_ends) := ⟨rfl, rfl, rfl, by decide +kernel, rfl, by decide +kernel, by decide +kernel⟩
/-! near_form: 0 region 1 start 2 goal 3 boxes 4 far 5 x 6 y -/
abbrev s_near_form : Stmt := topS 48
abbrev n_near_form : List Str := ["region", "start", "goal", "boxes", "far", "x", "y"]
theorem sc_near_form : FnScope n_near_form ["region", "start", "goal"] (defScope s_near_form) := ⟨rfl, rfl, rfl, by decide +kernel, rfl, by decide +kernel, by decide +kernel⟩
/-! is_open: 0 form 1 one 2 other 3 x1 4 y1 5 x2 6 y2 7 at 8 a 9 b 10 spans -/
abbrev s_is_open : Stmt := topS 49
abbrev n_is_open : List Str := ["form", "one", "other", "x1", "y1", "x2", "y2", "at", "a", "b", "spans"]
theorem sc_is_open : FnScope n_is_open ["form", "one", "other"] (defScope s_is_open) := ⟨rfl, rfl, rfl, by decide +kernel, rfl, by decide +kernel, by decide +kernel⟩
/-! crossings_of: 0 form 1 start 2 goal 3 x 4 columns 5 y 6 heights 7 rows 8 links 9 pairs 10 one 11 other 12 x1 13 x2 14 spans 15 y1 16 y2 17 a 18 b (cells: columns rows) -/
abbrev s_crossings_of : Stmt := topS 50
abbrev n_crossings_of : List Str := ["form", "start", "goal", "x", "columns", "y", "heights", "rows", "links", "pairs", "one", "other", "x1", "x2", "spans", "y1", "y2", "a", "b"]
theorem sc_crossings_of : FnScope n_crossings_of ["form", "start", "goal"] (defScope s_crossings_of) := ⟨rfl, rfl, rfl, by decide +kernel, rfl, by decide +kernel, by decide +kernel⟩
/-! steps_between: 0 one 1 other -/
abbrev s_steps_between : Stmt := topS 51
abbrev n_steps_between : List Str := ["one", "other"]
theorem sc_steps_between : FnScope n_steps_between ["one", "other"] (defScope s_steps_between) := ⟨rfl, rfl, rfl, by decide +kernel, rfl, by decide +kernel, by decide +kernel⟩
/-! put_in: 0 heap 1 entry 2 at -/
abbrev s_put_in : Stmt := topS 52
abbrev n_put_in : List Str := ["heap", "entry", "at"]
theorem sc_put_in : FnScope n_put_in ["heap", "entry"] (defScope s_put_in) := ⟨rfl, rfl, rfl, by decide +kernel, rfl, by decide +kernel, by decide +kernel⟩
/-! take_least: 0 heap 1 least 2 last 3 at 4 child -/
abbrev s_take_least : Stmt := topS 53
abbrev n_take_least : List Str := ["heap", "least", "last", "at", "child"]
theorem sc_take_least : FnScope n_take_least ["heap"] (defScope s_take_least) := ⟨rfl, rfl, rfl, by decide +kernel, rfl, by decide +kernel, by decide +kernel⟩
/-! found_way: 0 region 1 start 2 goal 3 links 4 heap 5 done 6 length 7 here 8 before 9 squares 10 there -/
abbrev s_found_way : Stmt := topS 54
abbrev n_found_way : List Str := ["region", "start", "goal", "links", "heap", "done", "length", "here", "before", "squares", "there"]
theorem sc_found_way : FnScope n_found_way ["region", "start", "goal"] (defScope s_found_way) := ⟨rfl, rfl, rfl, by decide +kernel, rfl, by decide +kernel, by decide +kernel⟩
/-! way_length: 0 region 1 start 2 goal 3 found -/
abbrev s_way_length : Stmt := topS 55
abbrev n_way_length : List Str := ["region", "start", "goal", "found"]
theorem sc_way_length : FnScope n_way_length ["region", "start", "goal"] (defScope s_way_length) := ⟨rfl, rfl, rfl, by decide +kernel, rfl, by decide +kernel, by decide +kernel⟩
/-! moved: 0 region 1 boxes -/
abbrev s_moved : Stmt := topS 57
abbrev n_moved : List Str := ["region", "boxes"]
theorem sc_moved : FnScope n_moved ["region", "boxes"] (defScope s_moved) := ⟨rfl, rfl, rfl, by decide +kernel, rfl, by decide +kernel, by decide +kernel⟩
/-! shifted: 0 region 1 by_x 2 by_y 3 number 4 boxes 5 x1 6 y1 7 x2 8 y2 (cells: by_x by_y) -/
abbrev s_shifted : Stmt := topS 58
abbrev n_shifted : List Str := ["region", "by_x", "by_y", "number", "boxes", "x1", "y1", "x2", "y2"]
theorem sc_shifted : FnScope n_shifted ["region", "by_x", "by_y"] (defScope s_shifted) := ⟨rfl, rfl, rfl, by decide +kernel, rfl, by decide +kernel, by decide +kernel⟩
/-! mirrored: 0 region 1 x1 2 y1 3 x2 4 y2 -/
abbrev s_mirrored : Stmt := topS 59
abbrev n_mirrored : List Str := ["region", "x1", "y1", "x2", "y2"]
theorem sc_mirrored : FnScope n_mirrored ["region"] (defScope s_mirrored) := ⟨rfl, rfl, rfl, by decide +kernel, rfl, by decide +kernel, by decide +kernel⟩
/-! turned: 0 region 1 x1 2 y1 3 x2 4 y2 -/
abbrev s_turned : Stmt := topS 60
abbrev n_turned : List Str := ["region", "x1", "y1", "x2", "y2"]
theorem sc_turned : FnScope n_turned ["region"] (defScope s_turned) := ⟨rfl, rfl, rfl, by decide +kernel, rfl, by decide +kernel, by decide +kernel⟩
/-! _law_pool: 0 _law_script 1 _law_k 2 _law_cell 3 _law_whole 4 _law_seed -/
abbrev s_law_pool : Stmt := topS 62
abbrev n_law_pool : List Str := ["_law_script", "_law_k", "_law_cell", "_law_whole", "_law_seed"]
theorem sc_law_pool : FnScope n_law_pool ["_law_script", "_law_k"] (defScope s_law_pool) := ⟨rfl, rfl, rfl, by decide +kernel, rfl, by decide +kernel, by decide +kernel⟩
/-! _law_take: 0 _law_pool_here 1 _law_many 2 _law_found -/
abbrev s_law_take : Stmt := topS 63
abbrev n_law_take : List Str := ["_law_pool_here", "_law_many", "_law_found"]
theorem sc_law_take : FnScope n_law_take ["_law_pool_here", "_law_many"] (defScope s_law_take) := ⟨rfl, rfl, rfl, by decide +kernel, rfl, by decide +kernel, by decide +kernel⟩
/-! _law_cells: 0 _law_pool_here 1 _law_wide 2 _law_high 3 _law_many 4 _law_found 5 _law_x 6 _law_y -/
abbrev s_law_cells : Stmt := topS 64
abbrev n_law_cells : List Str := ["_law_pool_here", "_law_wide", "_law_high", "_law_many", "_law_found", "_law_x", "_law_y"]
theorem sc_law_cells : FnScope n_law_cells ["_law_pool_here", "_law_wide", "_law_high"] (defScope s_law_cells) := ⟨rfl, rfl, rfl, by decide +kernel, rfl, by decide +kernel, by decide +kernel⟩
/-! _law_lines: 0 _law_pool_here 1 _law_many 2 _law_found 3 _law_turn 4 _law_step -/
abbrev s_law_lines : Stmt := topS 65
abbrev n_law_lines : List Str := ["_law_pool_here", "_law_many", "_law_found", "_law_turn", "_law_step"]
theorem sc_law_lines : FnScope n_law_lines ["_law_pool_here", "_law_many"] (defScope s_law_lines) := ⟨rfl, rfl, rfl, by decide +kernel, rfl, by decide +kernel, by decide +kernel⟩
/-! _law_made: 0 _law_cells_here 1 _law_xs 2 _law_ys 3 _law_found 4 _law_x 5 _law_y -/
abbrev s_law_made : Stmt := topS 66
abbrev n_law_made : List Str := ["_law_cells_here", "_law_xs", "_law_ys", "_law_found", "_law_x", "_law_y"]
theorem sc_law_made : FnScope n_law_made ["_law_cells_here", "_law_xs", "_law_ys"] (defScope s_law_made) := ⟨rfl, rfl, rfl, by decide +kernel, rfl, by decide +kernel, by decide +kernel⟩
/-! _law_far_square: 0 _law_pool_here 1 _law_xs 2 _law_ys 3 _law_cell 4 _law_a 5 _law_b 6 _law_x1 7 _law_x2 8 _law_y1 9 _law_y2 10 _law_across -/
abbrev s_law_far_square : Stmt := topS 67
abbrev n_law_far_square : List Str := ["_law_pool_here", "_law_xs", "_law_ys", "_law_cell", "_law_a", "_law_b", "_law_x1", "_law_x2", "_law_y1", "_law_y2", "_law_across"]
theorem sc_law_far_square : FnScope n_law_far_square ["_law_pool_here", "_law_xs", "_law_ys", "_law_cell"] (defScope s_law_far_square) := ⟨rfl, rfl, rfl, by decide +kernel, rfl, by decide +kernel, by decide +kernel⟩
/-! _law_crossings: 0 _law_cells_here 1 _law_xs 2 _law_ys 3 _law_start 4 _law_goal 5 _law_x 6 _law_columns 7 _law_y 8 _law_rows 9 _law_owner 10 _law_a 11 _law_b -/
abbrev s_law_crossings : Stmt := topS 70
abbrev n_law_crossings : List Str := ["_law_cells_here", "_law_xs", "_law_ys", "_law_start", "_law_goal", "_law_x", "_law_columns", "_law_y", "_law_rows", "_law_owner", "_law_a", "_law_b"]
theorem sc_law_crossings : FnScope n_law_crossings ["_law_cells_here", "_law_xs", "_law_ys", "_law_start", "_law_goal"] (defScope s_law_crossings) := ⟨rfl, rfl, rfl, by decide +kernel, rfl, by decide +kernel, by decide +kernel⟩
/-! _law_links: 0 _law_columns 1 _law_rows 2 _law_owner 3 _law_place 4 _law_found 5 _law_at 6 _law_x 7 _law_spot 8 _law_y -/
abbrev s_law_links : Stmt := topS 71
abbrev n_law_links : List Str := ["_law_columns", "_law_rows", "_law_owner", "_law_place", "_law_found", "_law_at", "_law_x", "_law_spot", "_law_y"]
theorem sc_law_links : FnScope n_law_links ["_law_columns", "_law_rows", "_law_owner"] (defScope s_law_links) := ⟨rfl, rfl, rfl, by decide +kernel, rfl, by decide +kernel, by decide +kernel⟩
/-! _law_length: 0 _law_cells_here 1 _law_xs 2 _law_ys 3 _law_start 4 _law_goal 5 _law_columns 6 _law_rows 7 _law_owner 8 _law_links_here 9 _law_least 10 _law_done 11 _law_left 12 _law_far 13 _law_here 14 _law_there 15 _law_total_here 16 _law_place (cells: _law_least _law_done) -/
abbrev s_law_length : Stmt := topS 72
abbrev n_law_length : List Str := ["_law_cells_here", "_law_xs", "_law_ys", "_law_start", "_law_goal", "_law_columns", "_law_rows", "_law_owner", "_law_links_here", "_law_least", "_law_done", "_law_left", "_law_far", "_law_here", "_law_there", "_law_total_here", "_law_place"]
theorem sc_law_length : FnScope n_law_length ["_law_cells_here", "_law_xs", "_law_ys", "_law_start", "_law_goal"] (defScope s_law_length) := ⟨rfl, rfl, rfl, by decide +kernel, rfl, by decide +kernel, by decide +kernel⟩
/-! _law_moved_right: 0 _law_pool_here 1 _law_region 2 _law_start 3 _law_goal 4 _law_due 5 _law_by 6 _law_change 7 _law_ends 8 _law_x 9 _law_y (cells: _law_by) -/
abbrev s_law_moved_right : Stmt := topS 73
abbrev n_law_moved_right : List Str := ["_law_pool_here", "_law_region", "_law_start", "_law_goal", "_law_due", "_law_by", "_law_change", "_law_ends", "_law_x", "_law_y"]
theorem sc_law_moved_right : FnScope n_law_moved_right ["_law_pool_here", "_law_region", "_law_start", "_law_goal", "_law_due"] (defScope s_law_moved_right) := ⟨rfl, rfl, rfl, by decide +kernel, rfl, by decide +kernel, by decide +kernel⟩
/-! law: 0 _law_script 1 _law_k 2 _law_pool_here 3 _law_xs 4 _law_ys 5 _law_cells_here 6 _law_region 7 _law_some 8 _law_due 9 _law_start 10 _law_goal 11 _law_one 12 _law_two 13 _law_three 14 _law_apart 15 _law_shut 16 _law_ends 17 _law_total_here 18 _law_x 19 _law_y 20 _law_place (cells: _law_pool_here _law_xs _law_ys _law_cells_here) -/
abbrev s_law : Stmt := topS 74
abbrev n_law : List Str := ["_law_script", "_law_k", "_law_pool_here", "_law_xs", "_law_ys", "_law_cells_here", "_law_region", "_law_some", "_law_due", "_law_start", "_law_goal", "_law_one", "_law_two", "_law_three", "_law_apart", "_law_shut", "_law_ends", "_law_total_here", "_law_x", "_law_y", "_law_place"]
theorem sc_law : FnScope n_law ["_law_script"] (defScope s_law) := ⟨rfl, rfl, rfl, by decide +kernel, rfl, by decide +kernel, by decide +kernel⟩
end BR
set_option maxHeartbeats 0
/-! BrH1: the head: facts by names, the run (printed by genH.py). -/
namespace BR
open PySem PySem.Spec PyProof.Rows L2
abbrev RR : PySem.W.OpenRow := PySem.W.OpenLaw.row PySem.Challenge.rw_boxregions_k60_whole_far_ways
abbrev qv : Program := PySem.W.view RR.prog [74]

def fn0 : List He5.DefA := [
  ⟨fun K => He.ga K "merged", "merged", "merged", defArgs s_merged, defBody s_merged, defScope s_merged, [], []⟩,
  ⟨fun K => He.ga K "is_covered", "is_covered", "is_covered", defArgs s_is_covered, defBody s_is_covered, defScope s_is_covered, [], []⟩,
  ⟨fun K => He.ga K "is_wanted", "is_wanted", "is_wanted", defArgs s_is_wanted, defBody s_is_wanted, defScope s_is_wanted, [], []⟩,
  ⟨fun K => He.ga K "combined", "combined", "combined", defArgs s_combined, defBody s_combined, defScope s_combined, [], []⟩,
  ⟨fun K => He.ga K "holds_span", "holds_span", "holds_span", defArgs s_holds_span, defBody s_holds_span, defScope s_holds_span, [], []⟩,
  ⟨fun K => He.ga K "spans_at", "spans_at", "spans_at", defArgs s_spans_at, defBody s_spans_at, defScope s_spans_at, [], []⟩,
  ⟨fun K => He.ga K "tidy", "tidy", "tidy", defArgs s_tidy, defBody s_tidy, defScope s_tidy, [], []⟩,
  ⟨fun K => He.ga K "cuts_of", "cuts_of", "cuts_of", defArgs s_cuts_of, defBody s_cuts_of, defScope s_cuts_of, [], []⟩,
  ⟨fun K => He.ga K "slabs_of", "slabs_of", "slabs_of", defArgs s_slabs_of, defBody s_slabs_of, defScope s_slabs_of, [], []⟩,
  ⟨fun K => He.ga K "boxes_of", "boxes_of", "boxes_of", defArgs s_boxes_of, defBody s_boxes_of, defScope s_boxes_of, [], []⟩,
  ⟨fun K => He.ga K "mixed", "mixed", "mixed", defArgs s_mixed, defBody s_mixed, defScope s_mixed, [], []⟩,
  ⟨fun K => He.ga K "frame_of", "frame_of", "frame_of", defArgs s_frame_of, defBody s_frame_of, defScope s_frame_of, [], []⟩,
  ⟨fun K => He.ga K "is_integer", "is_integer", "is_integer", defArgs s_is_integer, defBody s_is_integer, defScope s_is_integer, [], []⟩,
  ⟨fun K => He.ga K "are_integers", "are_integers", "are_integers", defArgs s_are_integers, defBody s_are_integers, defScope s_are_integers, [], []⟩,
  ⟨fun K => He.ga K "is_square", "is_square", "is_square", defArgs s_is_square, defBody s_is_square, defScope s_is_square, [], []⟩,
  ⟨fun K => He.ga K "is_box", "is_box", "is_box", defArgs s_is_box, defBody s_is_box, defScope s_is_box, [], []⟩,
  ⟨fun K => He.ga K "check_square", "check_square", "check_square", defArgs s_check_square, defBody s_check_square, defScope s_check_square, [], []⟩,
  ⟨fun K => He.ga K "check_box", "check_box", "check_box", defArgs s_check_box, defBody s_check_box, defScope s_check_box, [], []⟩,
  ⟨fun K => He.ga K "check_region", "check_region", "check_region", defArgs s_check_region, defBody s_check_region, defScope s_check_region, [], []⟩,
  ⟨fun K => He.ga K "united", "united", "united", defArgs s_united, defBody s_united, defScope s_united, [], []⟩]
def fn1 : List He5.DefA := [
  ⟨fun K => He.ga K "turned_out", "turned_out", "turned_out", defArgs s_turned_out, defBody s_turned_out, defScope s_turned_out, [], []⟩,
  ⟨fun K => He.ga K "check_flag", "check_flag", "check_flag", defArgs s_check_flag, defBody s_check_flag, defScope s_check_flag, [], []⟩,
  ⟨fun K => He.ga K "are_linked", "are_linked", "are_linked", defArgs s_are_linked, defBody s_are_linked, defScope s_are_linked, [], []⟩,
  ⟨fun K => He.ga K "groups_of", "groups_of", "groups_of", defArgs s_groups_of, defBody s_groups_of, defScope s_groups_of, [], []⟩,
  ⟨fun K => He.ga K "wide_frame", "wide_frame", "wide_frame", defArgs s_wide_frame, defBody s_wide_frame, defScope s_wide_frame, [], []⟩,
  ⟨fun K => He.ga K "part_regions", "part_regions", "part_regions", defArgs s_part_regions, defBody s_part_regions, defScope s_part_regions, [], []⟩,
  ⟨fun K => He.ga K "part_with", "part_with", "part_with", defArgs s_part_with, defBody s_part_with, defScope s_part_with, [], []⟩,
  ⟨fun K => He.ga K "part_of", "part_of", "part_of", defArgs s_part_of, defBody s_part_of, defScope s_part_of, [], [("corners", .bl false)]⟩,
  ⟨fun K => He.ga K "check_ends", "check_ends", "check_ends", defArgs s_check_ends, defBody s_check_ends, defScope s_check_ends, [], []⟩,
  ⟨fun K => He.ga K "near_form", "near_form", "near_form", defArgs s_near_form, defBody s_near_form, defScope s_near_form, [], []⟩,
  ⟨fun K => He.ga K "is_open", "is_open", "is_open", defArgs s_is_open, defBody s_is_open, defScope s_is_open, [], []⟩,
  ⟨fun K => He.ga K "crossings_of", "crossings_of", "crossings_of", defArgs s_crossings_of, defBody s_crossings_of, defScope s_crossings_of, [], []⟩,
  ⟨fun K => He.ga K "steps_between", "steps_between", "steps_between", defArgs s_steps_between, defBody s_steps_between, defScope s_steps_between, [], []⟩,
  ⟨fun K => He.ga K "put_in", "put_in", "put_in", defArgs s_put_in, defBody s_put_in, defScope s_put_in, [], []⟩,
  ⟨fun K => He.ga K "take_least", "take_least", "take_least", defArgs s_take_least, defBody s_take_least, defScope s_take_least, [], []⟩,
  ⟨fun K => He.ga K "found_way", "found_way", "found_way", defArgs s_found_way, defBody s_found_way, defScope s_found_way, [], []⟩,
  ⟨fun K => He.ga K "way_length", "way_length", "way_length", defArgs s_way_length, defBody s_way_length, defScope s_way_length, [], []⟩,
  ⟨fun K => He.ga K "moved", "moved", "moved", defArgs s_moved, defBody s_moved, defScope s_moved, [], []⟩,
  ⟨fun K => He.ga K "shifted", "shifted", "shifted", defArgs s_shifted, defBody s_shifted, defScope s_shifted, [], []⟩,
  ⟨fun K => He.ga K "mirrored", "mirrored", "mirrored", defArgs s_mirrored, defBody s_mirrored, defScope s_mirrored, [], []⟩]
def fn2 : List He5.DefA := [
  ⟨fun K => He.ga K "turned", "turned", "turned", defArgs s_turned, defBody s_turned, defScope s_turned, [], []⟩,
  ⟨fun K => He.ga K "_law_pool", "_law_pool", "_law_pool", defArgs s_law_pool, defBody s_law_pool, defScope s_law_pool, [], []⟩,
  ⟨fun K => He.ga K "_law_take", "_law_take", "_law_take", defArgs s_law_take, defBody s_law_take, defScope s_law_take, [], []⟩,
  ⟨fun K => He.ga K "_law_cells", "_law_cells", "_law_cells", defArgs s_law_cells, defBody s_law_cells, defScope s_law_cells, [], []⟩,
  ⟨fun K => He.ga K "_law_lines", "_law_lines", "_law_lines", defArgs s_law_lines, defBody s_law_lines, defScope s_law_lines, [], []⟩,
  ⟨fun K => He.ga K "_law_made", "_law_made", "_law_made", defArgs s_law_made, defBody s_law_made, defScope s_law_made, [], []⟩,
  ⟨fun K => He.ga K "_law_far_square", "_law_far_square", "_law_far_square", defArgs s_law_far_square, defBody s_law_far_square, defScope s_law_far_square, [], []⟩,
  ⟨fun K => He.ga K "_law_crossings", "_law_crossings", "_law_crossings", defArgs s_law_crossings, defBody s_law_crossings, defScope s_law_crossings, [], []⟩,
  ⟨fun K => He.ga K "_law_links", "_law_links", "_law_links", defArgs s_law_links, defBody s_law_links, defScope s_law_links, [], []⟩,
  ⟨fun K => He.ga K "_law_length", "_law_length", "_law_length", defArgs s_law_length, defBody s_law_length, defScope s_law_length, [], []⟩,
  ⟨fun K => He.ga K "_law_moved_right", "_law_moved_right", "_law_moved_right", defArgs s_law_moved_right, defBody s_law_moved_right, defScope s_law_moved_right, [], []⟩,
  ⟨fun K => He.ga K "law", "law", "law", defArgs s_law, defBody s_law, defScope s_law, [], []⟩,
  ⟨fun K => He.ma K (He.ga K "Region") "__init__", "__init__", "Region.__init__", defArgs s_R_init, defBody s_R_init, defScope s_R_init, [], []⟩,
  ⟨fun K => He.ma K (He.ga K "Region") "__or__", "__or__", "Region.__or__", defArgs s_R_or, defBody s_R_or, defScope s_R_or, [], []⟩,
  ⟨fun K => He.ma K (He.ga K "Region") "__invert__", "__invert__", "Region.__invert__", defArgs s_R_invert, defBody s_R_invert, defScope s_R_invert, [], []⟩,
  ⟨fun K => He.ma K (He.ga K "Region") "__contains__", "__contains__", "Region.__contains__", defArgs s_R_contains, defBody s_R_contains, defScope s_R_contains, [], []⟩,
  ⟨fun K => He.ma K (He.ga K "Region") "__eq__", "__eq__", "Region.__eq__", defArgs s_R_eq, defBody s_R_eq, defScope s_R_eq, [], []⟩,
  ⟨fun K => He5.wf K (He.ga K "Region") "classmethod" "of", "of", "Region.of", defArgs s_R_of, defBody s_R_of, defScope s_R_of, [], []⟩,
  ⟨fun K => He5.wf K (He.ga K "Region") "staticmethod" "empty", "empty", "Region.empty", defArgs s_R_empty, defBody s_R_empty, defScope s_R_empty, [], []⟩]
def fn : List He5.DefA := fn0 ++ (fn1 ++ (fn2))
def fa0 : List He.Fa := [.glo "merged", .glo "is_covered", .glo "is_wanted", .glo "combined", .glo "holds_span", .glo "spans_at", .glo "tidy", .glo "cuts_of", .glo "slabs_of", .glo "boxes_of", .glo "mixed", .glo "frame_of", .glo "is_integer", .glo "are_integers", .glo "is_square", .glo "is_box", .glo "check_square", .glo "check_box", .glo "check_region", .glo "united", .glo "turned_out", .glo "check_flag", .glo "are_linked", .glo "groups_of", .glo "wide_frame", .glo "part_regions", .glo "part_with", .glo "part_of", .glo "check_ends", .glo "near_form"]
def fa1 : List He.Fa := [.glo "is_open", .glo "crossings_of", .glo "steps_between", .glo "put_in", .glo "take_least", .glo "found_way", .glo "way_length", .glo "moved", .glo "shifted", .glo "mirrored", .glo "turned", .glo "_law_pool", .glo "_law_take", .glo "_law_cells", .glo "_law_lines", .glo "_law_made", .glo "_law_far_square", .glo "_law_crossings", .glo "_law_links", .glo "_law_length", .glo "_law_moved_right", .glo "law", .glo "Region", .free "any", .free "all", .free "min", .free "max", .free "len", .free "sorted", .free "set"]
def fa2 : List He.Fa := [.free "list", .free "tuple", .free "range", .free "zip", .free "abs", .free "isinstance", .free "dict", .free "enumerate", .free "repr", .free "int", .free "bool", .cls "Region", .noat "Region" "form", .noat "Region" "is_outside", .mkr "Region", .meth "Region" "__or__", .meth "Region" "__invert__", .meth "Region" "__contains__", .meth "Region" "__eq__"]
def fa : List He.Fa := fa0 ++ (fa1 ++ (fa2))
/-- what more is asked of the class of regions -/
def exB (K : PySem.W.Frag) : Bool := He.eqO (PySem.W.findIn K (.ref (He.ga K "Region")) "__class__") (some (some (.builtin "object.__class__"))) && (He.eqO (PySem.W.specialIn K (.builtin "object.__class__") "__get__") (some (some (.builtin "getset_descriptor.__get__"))) && (decide (PySem.W.takesIn K (.builtin "object.__class__") = some true) && (decide (PySem.W.mroIn K (He.ga K "Region") (.type "object") = some true) &&
  (PySem.W.selfFirst K (He.ga K "Region") && (PySem.W.readsIn K (He.ga K "Region") (.type "type") && (He.eqO (PySem.W.specialIn K (.ref (He.ga K "Region")) "__getattribute__") (some (some (.builtin "type.__getattribute__"))) && (He5.wrapB K (He.ga K "Region") "classmethod" "classmethod.__get__" "of" && (PySem.W.fnIn K (He5.wf K (He.ga K "Region") "classmethod" "of") && (He5.wrapB K (He.ga K "Region") "staticmethod" "staticmethod.__get__" "empty" &&
  (He.eqO (PySem.W.findIn K (.ref (He.ga K "Region")) "__ne__") (some (some (.builtin "object.__ne__"))) && decide (PySem.W.subIn K (.ref (He.ga K "Region")) (.type "object") = some true)))))))))))
/-- what stands at the addresses level by level; doubles are let stand (to take them out costs gigabytes) -/
def lvlB (g : Addr → Option Obj) (as : List Addr) : List Addr := as.flatMap fun a => match g a with
  | some o => He.refsD o
  | none => []
def asB (g : Addr → Option Obj) : Nat → List Addr → List Addr
  | 0, as => as
  | n + 1, as => as ++ asB g n (lvlB g as)
def asO (g : Addr → Option Obj) : List Addr := PySem.cStatics :: asB g 6 [PySem.mainGlobals]
abbrev AlB : Type := He.AlD × Bool
def obsBG (g : Addr → Option Obj) : AlB := (He5.obsA fa fn (He.frG g (asO g)), exB (He.frG g (asO g)))
theorem obs_of {fa : List He.Fa} {fn : List He5.DefA} {ex : PySem.W.Frag → Bool} {K : PySem.W.Frag} (e : (He5.obsA fa fn K, ex K) = (He5.valA fn, true)) : He5.SaysA fa fn K ∧ ex K = true := by
  obtain ⟨e1, e2⟩ := Prod.mk.inj e
  unfold He5.SaysA
  exact ⟨e1, e2⟩
theorem obsBG_of {h : PySem.Heap} (e : obsBG h.get? = (He5.valA fn, true)) : ∃ K : PySem.W.Frag, K.In h ∧ He5.SaysA fa fn K ∧ exB K = true := by
  unfold obsBG at e
  exact ⟨_, He.frG_in, obs_of (fa := fa) (fn := fn) (ex := exB) e⟩
def hookB : PySem.W.Hook where
  α := AlB
  obs := fun s => obsBG s.heap.get?
  val := fun _ => (He5.valA fn, true)
  says := fun _ h => ∃ K : PySem.W.Frag, K.In h ∧ He5.SaysA fa fn K ∧ exB K = true
  of := fun _ _ e => obsBG_of e
  keeps := fun _ _ _ ⟨K, hK, c⟩ k => ⟨K, PySem.W.Frag.In.keeps hK k, c⟩
def obB (s : PySem.W.SharedT) : AlB := obsBG (HandSHeadRun.getT s)
theorem obB_eq (s : PySem.W.SharedT) : obB s = hookB.obs s.abs := by
  have e : HandSHeadRun.getT s = s.abs.heap.get? := funext (HandSHeadRun.getT_eq s)
  show obsBG _ = obsBG _
  rw [e] <;> rfl
def names1 : List PySem.Str := ["_wall", "BoxError", "InvalidBox", "InvalidSquare", "InvalidRegion", "InvalidNumber", "Unbounded", "merged", "is_covered", "is_wanted", "combined", "holds_span", "spans_at", "tidy", "cuts_of", "slabs_of", "boxes_of", "mixed", "frame_of", "added_box", "opposite", "grown", "shrunk", "is_integer", "are_integers", "is_square", "is_box", "check_square"]
def names2 : List PySem.Str := ["check_box", "check_region", "check_bounded", "united", "turned_out", "Region", "check_flag", "are_linked", "groups_of", "wide_frame", "part_regions", "part_with", "part_of", "check_ends", "near_form", "is_open", "crossings_of", "steps_between", "put_in", "take_least", "found_way", "way_length", "moved", "shifted", "mirrored", "turned"]
def names3 : List PySem.Str := ["_law_pool", "_law_take", "_law_cells", "_law_lines", "_law_made", "_law_far_square", "_law_total", "_law_is_inside", "_law_crossings", "_law_links", "_law_length", "_law_moved_right"]
def names : List PySem.Str := names1 ++ (names2 ++ names3)
theorem headrun (w : World) : HandSHeadRun.RunEq RR qv hookB obB 30000 names w := by
  intro os
  kernel_rfl
end BR
set_option maxHeartbeats 4000000
/-! BrM0: sorted lists of ints without doubles, sorted lists of pairs; plain Lean. -/
namespace BR
/-- into a rising list without doubles -/
def insU (x : Int) : List Int → List Int
  | [] => [x]
  | y :: l => if x < y then x :: y :: l else if x = y then y :: l else y :: insU x l
def sortU (l : List Int) : List Int := l.foldr insU []
theorem mem_insU {x k : Int} : ∀ {l : List Int}, k ∈ insU x l ↔ k = x ∨ k ∈ l
  | [] => by simp [insU]
  | y :: l => by
    unfold insU
    split
    · simp
    · split
      · rename_i h; subst h; simp
      · rw [List.mem_cons, mem_insU, List.mem_cons]
        constructor
        · rintro (h | h | h)
          · exact .inr (.inl h)
          · exact .inl h
          · exact .inr (.inr h)
        · rintro (h | h | h)
          · exact .inr (.inl h)
          · exact .inl h
          · exact .inr (.inr h)
theorem insU_pw {x : Int} : ∀ {l : List Int}, l.Pairwise (· < ·) → (insU x l).Pairwise (· < ·)
  | [], _ => by simp [insU]
  | y :: l, h => by
    obtain ⟨h1, h2⟩ := List.pairwise_cons.mp h
    unfold insU
    split
    · rename_i hxy
      refine List.pairwise_cons.mpr ⟨fun z hz => ?_, h⟩
      rcases List.mem_cons.mp hz with e | hz
      · rw [e]; exact hxy
      · have := h1 z hz; omega
    · split
      · exact h
      · rename_i a b
        refine List.pairwise_cons.mpr ⟨fun z hz => ?_, insU_pw h2⟩
        rcases mem_insU.mp hz with e | hz
        · rw [e]; omega
        · exact h1 z hz
theorem mem_sortU {k : Int} : ∀ {l : List Int}, k ∈ sortU l ↔ k ∈ l
  | [] => by simp [sortU]
  | x :: l => by
    show k ∈ insU x (sortU l) ↔ _
    rw [mem_insU, mem_sortU, List.mem_cons]
theorem sortU_pw : ∀ {l : List Int}, (sortU l).Pairwise (· < ·)
  | [] => by simp [sortU]
  | x :: l => insU_pw sortU_pw
theorem rising_eq : ∀ {l m : List Int}, l.Pairwise (· < ·) → m.Pairwise (· < ·) → (∀ k, k ∈ l ↔ k ∈ m) → l = m
  | [], [], _, _, _ => rfl
  | [], b :: m, _, _, h => absurd ((h b).mpr List.mem_cons_self) (by simp)
  | a :: l, [], _, _, h => absurd ((h a).mp List.mem_cons_self) (by simp)
  | a :: l, b :: m, hl, hm, h => by
    obtain ⟨h1, h2⟩ := List.pairwise_cons.mp hl
    obtain ⟨g1, g2⟩ := List.pairwise_cons.mp hm
    have e : a = b := by
      rcases List.mem_cons.mp ((h a).mp List.mem_cons_self) with e | ha
      · exact e
      · rcases List.mem_cons.mp ((h b).mpr List.mem_cons_self) with e | hb
        · exact e.symm
        · have := h1 b hb
          have := g1 a ha
          omega
    subst e
    congr 1
    refine rising_eq h2 g2 fun k => ?_
    constructor
    · intro hk
      rcases List.mem_cons.mp ((h k).mp (List.mem_cons_of_mem _ hk)) with e | q
      · have := h1 k hk
        omega
      · exact q
    · intro hk
      rcases List.mem_cons.mp ((h k).mpr (List.mem_cons_of_mem _ hk)) with e | q
      · have := g1 k hk
        omega
      · exact q
theorem sortU_len {l B : List Int} (h : ∀ k ∈ l, k ∈ B) : (sortU l).length ≤ B.length := by
  have go : ∀ {L B : List Int}, L.Pairwise (· < ·) → (∀ k ∈ L, k ∈ B) → L.length ≤ B.length := by
    intro L
    induction L with
    | nil => intro B _ _; exact Nat.zero_le _
    | cons a L ih =>
      intro B hp hs
      obtain ⟨h1, h2⟩ := List.pairwise_cons.mp hp
      have ha : a ∈ B := hs a List.mem_cons_self
      have := ih (B := B.erase a) h2 fun k hk => (List.mem_erase_of_ne (fun e => by have := h1 k hk; omega)).mpr (hs k (List.mem_cons_of_mem _ hk))
      rw [List.length_erase_of_mem ha] at this
      have hp : 0 < B.length := List.length_pos_of_mem ha
      rw [List.length_cons]
      omega
  exact go sortU_pw fun k hk => h k (mem_sortU.mp hk)

/-! ### pairs, by the first and then by the second -/
abbrev Pr := Int × Int
def leP (p q : Pr) : Bool := decide (p.1 < q.1) || (decide (p.1 = q.1) && decide (p.2 ≤ q.2))
theorem leP_iff {p q : Pr} : leP p q = true ↔ p.1 < q.1 ∨ (p.1 = q.1 ∧ p.2 ≤ q.2) := by simp [leP]
def insP (x : Pr) : List Pr → List Pr
  | [] => [x]
  | y :: l => if leP x y then x :: y :: l else y :: insP x l
def sortP (l : List Pr) : List Pr := l.foldr insP []
theorem insP_perm {x : Pr} : ∀ {l : List Pr}, (insP x l).Perm (x :: l)
  | [] => .refl _
  | y :: l => by
    unfold insP
    split
    · exact .refl _
    · exact ((insP_perm (l := l)).cons y).trans (List.Perm.swap x y l)
theorem sortP_perm : ∀ {l : List Pr}, (sortP l).Perm l
  | [] => .refl _
  | x :: l => insP_perm.trans (sortP_perm.cons x)
theorem leP_tr {p q r : Pr} (h : leP p q = true) (h' : leP q r = true) : leP p r = true := by
  rw [leP_iff] at *
  omega
theorem leP_total (p q : Pr) : leP p q = true ∨ leP q p = true := by
  rw [leP_iff, leP_iff]
  omega
theorem leP_anti {p q : Pr} (h : leP p q = true) (h' : leP q p = true) : p = q := by
  rw [leP_iff] at *
  exact Prod.ext (by omega) (by omega)
theorem insP_pw {x : Pr} : ∀ {l : List Pr}, l.Pairwise (fun p q => leP p q = true) → (insP x l).Pairwise (fun p q => leP p q = true)
  | [], _ => by simp [insP]
  | y :: l, h => by
    obtain ⟨h1, h2⟩ := List.pairwise_cons.mp h
    unfold insP
    split
    · rename_i hxy
      refine List.pairwise_cons.mpr ⟨fun z hz => ?_, h⟩
      rcases List.mem_cons.mp hz with e | hz
      · rw [e]; exact hxy
      · exact leP_tr hxy (h1 z hz)
    · rename_i hxy
      refine List.pairwise_cons.mpr ⟨fun z hz => ?_, insP_pw h2⟩
      rcases List.mem_cons.mp (insP_perm.mem_iff.mp hz) with e | hz
      · rw [e]; exact (leP_total x y).resolve_left hxy
      · exact h1 z hz
theorem sortP_pw : ∀ {l : List Pr}, (sortP l).Pairwise (fun p q => leP p q = true)
  | [] => by simp [sortP]
  | x :: l => insP_pw sortP_pw
theorem sortedP_eq : ∀ {l m : List Pr}, l.Perm m → l.Pairwise (fun p q => leP p q = true) → m.Pairwise (fun p q => leP p q = true) → l = m
  | [], m, h, _, _ => (List.nil_perm.mp h).symm
  | a :: l, [], h, _, _ => absurd h (by simp)
  | a :: l, b :: m, h, hl, hm => by
    obtain ⟨h1, h2⟩ := List.pairwise_cons.mp hl
    obtain ⟨g1, g2⟩ := List.pairwise_cons.mp hm
    have e : a = b := by
      rcases List.mem_cons.mp (h.mem_iff.mp List.mem_cons_self) with e | ha
      · exact e
      · rcases List.mem_cons.mp (h.mem_iff.mpr List.mem_cons_self) with e | hb
        · exact e.symm
        · exact leP_anti (h1 b hb) (g1 a ha)
    subst e
    rw [sortedP_eq (List.Perm.cons_inv h) h2 g2]
theorem mem_sortP {k : Pr} {l : List Pr} : k ∈ sortP l ↔ k ∈ l := sortP_perm.mem_iff
/-- neighbours -/
def adj : List Int → List (Int × Int)
  | x :: y :: r => (x, y) :: adj (y :: r)
  | _ => []
end BR
/-! BrM1: spans, forms, boxes: the mirrors. -/
namespace BR
abbrev Slab := Int × Int × List Pr
abbrev Form := List Slab
/-- x1, y1, x2, y2 -/
abbrev Box := Int × Int × Int × Int
inductive Wd where | or | less
  deriving DecidableEq
def want : Wd → Bool → Bool → Bool
  | .or, a, b => a || b
  | .less, a, b => a && !b
def isCov (ss : List Pr) (n : Int) : Bool := ss.any fun s => decide (s.1 ≤ n ∧ n < s.2)
def holdsSp (ss : List Pr) (a b : Int) : Bool := ss.any fun s => decide (s.1 ≤ a) && decide (b ≤ s.2)
def mergeStep (found : List Pr) (p : Pr) : List Pr := match found.getLast? with
  | some l => if p.1 ≤ l.2 then found.dropLast ++ [(l.1, if l.2 > p.2 then l.2 else p.2)] else found ++ [p]
  | none => [p]
def merged (ps : List Pr) : List Pr := (sortP ps).foldl mergeStep []
def endsOf (ss : List Pr) : List Int := ss.flatMap fun s => [s.1, s.2]
def combined (one other : List Pr) (w : Wd) : List Pr :=
  merged ((adj (sortU (endsOf (one ++ other)))).filter fun p => want w (isCov one p.1) (isCov other p.1))
def spansAt : Form → Int → List Pr
  | [], _ => []
  | s :: f, x => if s.1 ≤ x ∧ x < s.2.1 then s.2.2 else spansAt f x
def tidyStep (found : Form) (s : Slab) : Form := match found.getLast? with
  | some l => if l.2.1 = s.1 ∧ l.2.2 = s.2.2 then found.dropLast ++ [(l.1, s.2.1, s.2.2)] else if s.2.2 = [] then found else found ++ [s]
  | none => if s.2.2 = [] then [] else [s]
def tidy (f : Form) : Form := f.foldl tidyStep []
def xsOf (f : Form) : List Int := f.flatMap fun s => [s.1, s.2.1]
def cutsOf (f : Form) : List Int := sortU (xsOf f)
def bxs (bs : List Box) : List Int := bs.flatMap fun b => [b.1, b.2.2.1]
def pairsAt (bs : List Box) (a : Int) : List Pr := (bs.filter fun c => decide (c.1 ≤ a ∧ a < c.2.2.1)).map fun c => (c.2.1, c.2.2.2)
def rawSlabs (bs : List Box) : Form := (adj (sortU (bxs bs))).map fun p => (p.1, p.2, merged (pairsAt bs p.1))
def slabsOf (bs : List Box) : Form := tidy (rawSlabs bs)
def boxesOf (f : Form) : List Box := f.flatMap fun s => s.2.2.map fun p => (s.1, p.1, s.2.1, p.2)
def rawMixed (f g : Form) (w : Wd) : Form := (adj (cutsOf (f ++ g))).map fun p => (p.1, p.2, combined (spansAt f p.1) (spansAt g p.1) w)
def mixed (f g : Form) (w : Wd) : Form := tidy (rawMixed f g w)
/-- the least, the greatest of some ints -/
def minL : List Int → Int
  | [] => 0
  | [x] => x
  | x :: l => if minL l < x then minL l else x
def maxL : List Int → Int
  | [] => 0
  | [x] => x
  | x :: l => if x < maxL l then maxL l else x
theorem minL_mem : ∀ {l : List Int}, l ≠ [] → minL l ∈ l
  | [], h => absurd rfl h
  | [x], _ => by simp [minL]
  | x :: y :: l, _ => by
    have ih := minL_mem (l := y :: l) (by simp)
    unfold minL
    split
    · exact List.mem_cons_of_mem _ ih
    · exact List.mem_cons_self
theorem minL_le : ∀ {l : List Int} {k : Int}, k ∈ l → minL l ≤ k
  | [x], k, h => by simp at h; simp [minL, h]
  | x :: y :: l, k, h => by
    have ih := @minL_le (y :: l)
    unfold minL
    rcases List.mem_cons.mp h with e | h
    · split <;> omega
    · have := ih h
      split <;> omega
theorem maxL_mem : ∀ {l : List Int}, l ≠ [] → maxL l ∈ l
  | [], h => absurd rfl h
  | [x], _ => by simp [maxL]
  | x :: y :: l, _ => by
    have ih := maxL_mem (l := y :: l) (by simp)
    unfold maxL
    split
    · exact List.mem_cons_of_mem _ ih
    · exact List.mem_cons_self
theorem maxL_le : ∀ {l : List Int} {k : Int}, k ∈ l → k ≤ maxL l
  | [x], k, h => by simp at h; simp [maxL, h]
  | x :: y :: l, k, h => by
    have ih := @maxL_le (y :: l)
    unfold maxL
    rcases List.mem_cons.mp h with e | h
    · split <;> omega
    · have := ih h
      split <;> omega
def headY (s : Slab) : Int := match s.2.2 with | p :: _ => p.1 | [] => 0
def lastY (s : Slab) : Int := match s.2.2.getLast? with | some p => p.2 | none => 0
def headX (f : Form) : Int := match f with | s :: _ => s.1 | [] => 0
def lastX (f : Form) : Int := match f.getLast? with | some s => s.2.1 | none => 0
/-- of a form that is not empty -/
def frameOf (f : Form) : Box := (headX f, minL (f.map headY), lastX f, maxL (f.map lastY))
def wideFrame (f : Form) : Box := ((frameOf f).1 - 1, (frameOf f).2.1 - 1, (frameOf f).2.2.1 + 1, (frameOf f).2.2.2 + 1)
end BR
/-! BrM2: groups of linked boxes: the mirror. -/
namespace BR
def maxI (i j : Int) : Int := if j > i then j else i
def minI (i j : Int) : Int := if j < i then j else i
def linked (a b : Box) : Bool := (decide (a.2.2.1 = b.1) || decide (b.2.2.1 = a.1)) && decide (maxI a.2.1 b.2.1 < minI a.2.2.2 b.2.2.2)
/-- all that is linked to g's boxes from the at-th on is drawn from l -/
def growG : Nat → List Box → List Box → Nat → List Box × List Box
  | 0, g, l, _ => (g, l)
  | n + 1, g, l, at_ => match g[at_]? with
    | none => (g, l)
    | some b => growG n (g ++ l.filter (linked b)) (l.filter fun c => !linked b c) (at_ + 1)
theorem growG_step {q : Nat} {g l : List Box} {k : Nat} {c : Box} (h : g[k]? = some c) : growG (q + 1) g l k = growG q (g ++ l.filter (linked c)) (l.filter fun x => !linked c x) (k + 1) := by
  rw [growG, h]
def goG : Nat → List Box → List (List Box) → List (List Box)
  | 0, _, found => found
  | _ + 1, [], found => found
  | n + 1, b :: r, found => goG n (growG (r.length + 1) [b] r 0).2 (found ++ [(growG (r.length + 1) [b] r 0).1])
def groupsOf (bs : List Box) : List (List Box) := goG bs.length bs []
theorem filter_two {α : Type} (p : α → Bool) (l : List α) : (l.filter p).length + (l.filter fun x => !p x).length = l.length := by
  induction l with
  | nil => rfl
  | cons x l ih =>
    rw [List.filter_cons, List.filter_cons]
    cases h : p x
    · simp only [Bool.not_false, if_true, List.length_cons]
      simp only [Bool.false_eq_true, if_false]
      omega
    · simp only [Bool.not_true, if_true, List.length_cons]
      simp only [Bool.false_eq_true, if_false]
      omega
theorem growG_len : ∀ (n : Nat) (g l : List Box) (k : Nat), (growG n g l k).1.length + (growG n g l k).2.length = g.length + l.length ∧ (growG n g l k).2.length ≤ l.length
  | 0, g, l, k => ⟨rfl, Nat.le_refl _⟩
  | n + 1, g, l, k => by
    unfold growG
    cases h : g[k]? with
    | none => exact ⟨rfl, Nat.le_refl _⟩
    | some b =>
      dsimp only
      obtain ⟨h1, h2⟩ := growG_len n (g ++ l.filter (linked b)) (l.filter fun c => !linked b c) (k + 1)
      have h3 := filter_two (linked b) l
      rw [List.length_append] at h1
      omega
end BR
/-! BrM3: mirrors of the ways. -/
namespace BR
def ltPr' (p q : Pr) : Bool := decide (p.1 < q.1) || (decide (p.1 = q.1) && decide (p.2 < q.2))
def minPr (p q : Pr) : Pr := if ltPr' q p = true then q else p
def maxPr (p q : Pr) : Pr := if ltPr' p q = true then q else p
def mn2 (i j : Int) : Int := if j < i then j else i
def mx2 (i j : Int) : Int := if j > i then j else i
def absI (i : Int) : Int := if i < 0 then -i else i
def steps (p q : Pr) : Int := absI (p.1 - q.1) + absI (p.2 - q.2)
/-- none: a place is missing -/
def openStep (x2 y : Int) (s : Slab) (n : Int) : Option Int := if s.1 ≤ n ∧ n < s.2.1 ∧ n ≤ x2 then (if holdsSp s.2.2 y (y + 1) = true then some s.2.1 else none) else some n
def openGo (x2 y : Int) : Form → Int → Option Int
  | [], n => some n
  | s :: f, n => match openStep x2 y s n with
    | none => none
    | some m => openGo x2 y f m
def isOpen (f : Form) (p q : Pr) : Bool :=
  if (minPr p q).1 = (maxPr p q).1 then holdsSp (spansAt f (minPr p q).1) (mn2 (minPr p q).2 (maxPr p q).2) (mx2 (minPr p q).2 (maxPr p q).2 + 1)
  else match openGo (maxPr p q).1 (minPr p q).2 f (minPr p q).1 with
    | none => false
    | some n => decide ((maxPr p q).1 < n)
theorem openGo_app {x2 y : Int} : ∀ {f g : Form} {n : Int}, openGo x2 y (f ++ g) n = match openGo x2 y f n with
    | none => none
    | some m => openGo x2 y g m
  | [], g, n => rfl
  | s :: f, g, n => by
    show (match openStep x2 y s n with
      | none => none
      | some m => openGo x2 y (f ++ g) m) = match (match openStep x2 y s n with
      | none => none
      | some m => openGo x2 y f m) with
      | none => none
      | some m => openGo x2 y g m
    cases openStep x2 y s n with
    | none => rfl
    | some m => exact openGo_app
theorem openGo_bad {x2 y n m : Int} {pre post : Form} {s : Slab} (h : openGo x2 y pre n = some m) (hs : openStep x2 y s m = none) : openGo x2 y (pre ++ s :: post) n = none := by
  rw [openGo_app, h]
  show (match openStep x2 y s m with
      | none => none
      | some k => openGo x2 y post k) = none
  rw [hs]
theorem openGo_on {x2 y n m k : Int} {pre : Form} {s : Slab} (h : openGo x2 y pre n = some m) (hs : openStep x2 y s m = some k) : openGo x2 y (pre ++ [s]) n = some k := by
  rw [openGo_app, h]
  show (match openStep x2 y s m with
      | none => none
      | some k => openGo x2 y [] k) = some k
  rw [hs]
  rfl
def endBoxes (p q : Pr) : List Box := [p, q].map fun s => (s.1, s.2, s.1 + 1, s.2 + 1)
def farForm (f : Form) (p q : Pr) : Form := mixed (slabsOf (endBoxes p q)) f .or
def nearForm (f : Form) (o : Bool) (p q : Pr) : Form := if o = true then mixed (slabsOf [wideFrame (farForm f p q)]) f .less else f
end BR
/-! BrM4: the heap. -/
namespace BR
/-- length, square, the square before -/
abbrev E3 := Int × Pr × Pr
def ltE (a b : E3) : Bool := decide (a.1 < b.1) || (decide (a.1 = b.1) && (ltPr' a.2.1 b.2.1 || (decide (a.2.1 = b.2.1) && ltPr' a.2.2 b.2.2)))
section
variable {α : Type} (lt : α → α → Bool)
def upGo : Nat → List α → Nat → List α
  | 0, l, _ => l
  | n + 1, l, k => if k = 0 then l else match l[k]?, l[(k - 1) / 2]? with
    | some x, some y => if lt x y = true then upGo n ((l.set k y).set ((k - 1) / 2) x) ((k - 1) / 2) else l
    | _, _ => l
def putIn (l : List α) (x : α) : List α := upGo lt (l.length + 1) (l ++ [x]) l.length
/-- the lesser of the two behind -/
def childOf (l : List α) (k : Nat) : Nat := match l[2 * k + 1]?, l[2 * k + 2]? with
  | some x, some y => if lt y x = true then 2 * k + 2 else 2 * k + 1
  | _, _ => 2 * k + 1
def downGo : Nat → List α → Nat → List α
  | 0, l, _ => l
  | n + 1, l, k => match l[k]?, l[childOf lt l k]? with
    | some x, some y => if lt y x = true then downGo n ((l.set k y).set (childOf lt l k) x) (childOf lt l k) else l
    | _, _ => l
def takeIn (l : List α) : List α := match l.dropLast, l.getLast? with
  | x :: r, some z => downGo lt l.length (z :: r) 0
  | _, _ => []
theorem childOf_cases (l : List α) (k : Nat) : childOf lt l k = 2 * k + 1 ∨ childOf lt l k = 2 * k + 2 := by
  unfold childOf
  split
  · split
    · exact .inr rfl
    · exact .inl rfl
  · exact .inl rfl
theorem upGo_len : ∀ (n : Nat) (l : List α) (k : Nat), (upGo lt n l k).length = l.length
  | 0, l, k => rfl
  | n + 1, l, k => by
    unfold upGo
    split
    · rfl
    · split
      · split
        · rw [upGo_len, List.length_set, List.length_set]
        · rfl
      · rfl
theorem up_fuel : ∀ {n m k : Nat} {l : List α}, k < l.length → k < n → k < m → upGo lt n l k = upGo lt m l k
  | 0, m, k, l, _, h, _ => absurd h (Nat.not_lt_zero _)
  | n + 1, 0, k, l, _, _, h => absurd h (Nat.not_lt_zero _)
  | n + 1, m + 1, k, l, hk, h1, h2 => by
    unfold upGo
    by_cases h0 : k = 0
    · rw [if_pos h0, if_pos h0]
    · rw [if_neg h0, if_neg h0]
      split
      · split
        · exact up_fuel (by rw [List.length_set, List.length_set]; omega) (by omega) (by omega)
        · rfl
      · rfl
theorem putIn_len (l : List α) (x : α) : (putIn lt l x).length = l.length + 1 := by
  unfold putIn
  rw [upGo_len, List.length_append, List.length_singleton]
theorem downGo_len : ∀ (n : Nat) (l : List α) (k : Nat), (downGo lt n l k).length = l.length
  | 0, l, k => rfl
  | n + 1, l, k => by
    unfold downGo
    split
    · split
      · rw [downGo_len, List.length_set, List.length_set]
      · rfl
    · rfl
theorem childOf_gt (l : List α) (k : Nat) : k < childOf lt l k := by
  rcases childOf_cases lt l k with h | h <;> rw [h] <;> omega
theorem childOf_lt {l : List α} {k : Nat} (h : 2 * k + 1 < l.length) : childOf lt l k < l.length := by
  unfold childOf
  split
  · rename_i x y h1 h2
    split
    · exact (List.getElem?_eq_some_iff.mp h2).1
    · exact h
  · exact h
theorem down_fuel : ∀ {n m k : Nat} {l : List α}, k < l.length → l.length - k ≤ n → l.length - k ≤ m → downGo lt n l k = downGo lt m l k
  | 0, m, k, l, hk, h, _ => by omega
  | n + 1, 0, k, l, hk, _, h => by omega
  | n + 1, m + 1, k, l, hk, h1, h2 => by
    have hc := childOf_gt lt l k
    rw [downGo, downGo]
    split
    · rename_i x y e1 e2
      have hcl := (List.getElem?_eq_some_iff.mp e2).1
      split
      · exact down_fuel (by rw [List.length_set, List.length_set]; exact hcl) (by rw [List.length_set, List.length_set]; omega) (by rw [List.length_set, List.length_set]; omega)
      · rfl
    · rfl
theorem down_end {n k : Nat} {l : List α} (h : ¬ 2 * k + 1 < l.length) : downGo lt n l k = l := by
  cases n with
  | zero => rfl
  | succ n =>
    have e : childOf lt l k = 2 * k + 1 := by
      unfold childOf
      rw [List.getElem?_eq_none (by omega)]
    rw [downGo, e, List.getElem?_eq_none (i := 2 * k + 1) (by omega)]
    split
    · rename_i h1 h2; cases h2
    · rfl
theorem down_step {n k : Nat} {l : List α} {x y : α} (h1 : l[k]? = some x) (h2 : l[childOf lt l k]? = some y) : downGo lt (n + 1) l k = if lt y x = true then downGo lt n ((l.set k y).set (childOf lt l k) x) (childOf lt l k) else l := by
  rw [downGo, h1, h2]
theorem child_yes {l : List α} {k : Nat} {x y : α} (h1 : l[2 * k + 1]? = some x) (h2 : l[2 * k + 2]? = some y) : childOf lt l k = if lt y x = true then 2 * k + 2 else 2 * k + 1 := by
  unfold childOf
  rw [h1, h2]
theorem child_no {l : List α} {k : Nat} (h2 : ¬ 2 * k + 2 < l.length) : childOf lt l k = 2 * k + 1 := by
  unfold childOf
  rw [List.getElem?_eq_none (i := 2 * k + 2) (by omega)]
  split
  · rename_i h1 h2; cases h2
  · rfl
end
end BR
/-! BrM5: crossings. -/
namespace BR
def colsRaw (f : Form) (p q : Pr) : List Int := [p.1, q.1] ++ f.flatMap fun s => [s.1, s.2.1 - 1]
def highs (f : Form) : List Int := f.flatMap fun s => s.2.2.flatMap fun r => [r.1, r.2 - 1]
def rowsRaw (f : Form) (p q : Pr) : List Int := [p.2, q.2] ++ highs f
def knotAt (f : Form) (x : Int) (rows : List Int) : List Pr := (rows.filter fun y => holdsSp (spansAt f x) y (y + 1)).map fun y => (x, y)
def knots (f : Form) (cols rows : List Int) : List Pr := cols.flatMap fun x => knotAt f x rows
def upPairs (cols rows : List Int) : List (Pr × Pr) := cols.flatMap fun x => (adj rows).map fun ab => ((x, ab.1), (x, ab.2))
def acrossPairs (cols rows : List Int) : List (Pr × Pr) := rows.flatMap fun y => (adj cols).map fun ab => ((ab.1, y), (ab.2, y))
abbrev Tab := List (Pr × List Pr)
def addTo (es : Tab) (p q : Pr) : Tab := es.map fun kv => if kv.1 = p then (kv.1, kv.2 ++ [q]) else kv
def inTab {β : Type} (es : List (Pr × β)) (p : Pr) : Bool := es.any fun kv => decide (kv.1 = p)
def linkStep (f : Form) (es : Tab) (pq : Pr × Pr) : Tab := if (inTab es pq.1 && (inTab es pq.2 && isOpen f pq.1 pq.2)) = true then addTo (addTo es pq.1 pq.2) pq.2 pq.1 else es
def linksOf (f : Form) (p q : Pr) : Tab :=
  let cols := sortU (colsRaw f p q)
  let rows := sortU (rowsRaw f p q)
  (upPairs cols rows ++ acrossPairs cols rows).foldl (linkStep f) ((knots f cols rows).map fun k => (k, []))
theorem addTo_keys (es : Tab) (p q : Pr) : (addTo es p q).map (·.1) = es.map (·.1) := by
  unfold addTo
  rw [List.map_map]
  refine List.map_congr_left fun kv _ => ?_
  show (if kv.1 = p then (kv.1, kv.2 ++ [q]) else kv).1 = kv.1
  split <;> rfl
theorem linkStep_keys (f : Form) (es : Tab) (pq : Pr × Pr) : (linkStep f es pq).map (·.1) = es.map (·.1) := by
  unfold linkStep
  split
  · rw [addTo_keys, addTo_keys]
  · rfl
theorem linkFold_keys (f : Form) : ∀ (l : List (Pr × Pr)) (es : Tab), (l.foldl (linkStep f) es).map (·.1) = es.map (·.1)
  | [], es => rfl
  | pq :: l, es => by rw [List.foldl_cons, linkFold_keys f l, linkStep_keys]
theorem inTab_iff {β : Type} {es : List (Pr × β)} {p : Pr} : inTab es p = true ↔ p ∈ es.map (·.1) := by
  unfold inTab
  rw [List.any_eq_true, List.mem_map]
  constructor
  · rintro ⟨kv, h1, h2⟩
    exact ⟨kv, h1, of_decide_eq_true h2⟩
  · rintro ⟨kv, h1, h2⟩
    exact ⟨kv, h1, decide_eq_true h2⟩
theorem inTab_keys {β γ : Type} {es : List (Pr × β)} {fs : List (Pr × γ)} (h : es.map (·.1) = fs.map (·.1)) (p : Pr) : inTab es p = inTab fs p := by
  rw [Bool.eq_iff_iff, inTab_iff, inTab_iff, h]
theorem adj_length_le (l : List Int) : (adj l).length ≤ l.length := by
  induction l with
  | nil => exact Nat.le_refl _
  | cons x r ih =>
    cases r with
    | nil => exact Nat.zero_le _
    | cons y r =>
      show ((x, y) :: adj (y :: r)).length ≤ _
      rw [List.length_cons, List.length_cons]
      exact Nat.succ_le_succ ih
theorem flat_len {α β : Type} {f : α → List β} {n : Nat} : ∀ {l : List α}, (∀ x ∈ l, (f x).length ≤ n) → (l.flatMap f).length ≤ l.length * n
  | [], _ => Nat.zero_le _
  | x :: l, h => by
    rw [List.flatMap_cons, List.length_append, List.length_cons, Nat.succ_mul]
    have := flat_len (l := l) fun y hy => h y (List.mem_cons_of_mem _ hy)
    have := h x List.mem_cons_self
    omega
theorem knots_app (f : Form) (a b rows : List Int) : knots f (a ++ b) rows = knots f a rows ++ knots f b rows := List.flatMap_append
theorem knots_one (f : Form) (x : Int) (rows : List Int) : knots f [x] rows = knotAt f x rows := by
  unfold knots
  rw [List.flatMap_cons, List.flatMap_nil, List.append_nil]
theorem knotAt_snoc (f : Form) (x y : Int) (rows : List Int) : knotAt f x (rows ++ [y]) = knotAt f x rows ++ if holdsSp (spansAt f x) y (y + 1) = true then [(x, y)] else [] := by
  unfold knotAt
  rw [List.filter_append, List.map_append, List.filter_cons, List.filter_nil]
  split <;> rfl
theorem mem_knots {f : Form} {cols rows : List Int} {k : Pr} : k ∈ knots f cols rows ↔ k.1 ∈ cols ∧ k.2 ∈ rows ∧ holdsSp (spansAt f k.1) k.2 (k.2 + 1) = true := by
  unfold knots knotAt
  rw [List.mem_flatMap]
  constructor
  · rintro ⟨x, hx, hk⟩
    obtain ⟨y, hy, rfl⟩ := List.mem_map.mp hk
    obtain ⟨h1, h2⟩ := List.mem_filter.mp hy
    exact ⟨hx, h1, h2⟩
  · rintro ⟨h1, h2, h3⟩
    exact ⟨k.1, h1, List.mem_map.mpr ⟨k.2, List.mem_filter.mpr ⟨h2, h3⟩, rfl⟩⟩
theorem mem_knotAt {f : Form} {x : Int} {rows : List Int} {k : Pr} : k ∈ knotAt f x rows ↔ k.1 = x ∧ k.2 ∈ rows ∧ holdsSp (spansAt f x) k.2 (k.2 + 1) = true := by
  rw [← knots_one, mem_knots, List.mem_singleton]
  constructor
  · rintro ⟨rfl, h⟩; exact ⟨rfl, h⟩
  · rintro ⟨rfl, h⟩; exact ⟨rfl, h⟩
theorem knots_nodup {f : Form} {cols rows : List Int} (hc : cols.Nodup) (hr : rows.Nodup) : (knots f cols rows).Nodup := by
  induction cols with
  | nil => exact List.nodup_nil
  | cons x r ih =>
    obtain ⟨h1, h2⟩ := List.nodup_cons.mp hc
    show (knotAt f x rows ++ knots f r rows).Nodup
    refine List.nodup_append.mpr ⟨?_, ih h2, fun a ha b hb e => ?_⟩
    · unfold knotAt
      refine List.Pairwise.map _ (fun a b h e => h (congrArg Prod.snd e)) (hr.filter _)
    · subst e
      exact h1 ((mem_knotAt.mp ha).1 ▸ (mem_knots.mp hb).1)
end BR
/-! BrM6: the search with a heap. -/
namespace BR
/-- the squares that are done, each with the one before it -/
abbrev Dn := List (Pr × Option Pr)
def inD (dn : Dn) (p : Pr) : Bool := inTab dn p
def degL (es : Tab) : Nat := (es.map fun kv => kv.2.length).sum
def budget (es : Tab) (dn : Dn) : Nat := degL (es.filter fun kv => !inD dn kv.1)
def nbrs : Tab → Pr → List Pr
  | [], _ => []
  | kv :: r, p => if kv.1 = p then kv.2 else nbrs r p
def pushAll (len : Int) (here : Pr) (dn : Dn) (ts : List Pr) (h : List E3) : List E3 :=
  ts.foldl (fun h t => if inD dn t = true then h else putIn ltE h (len + steps here t, t, here)) h
def search (es : Tab) (goal : Pr) : Nat → List E3 → Dn → Option (Int × Dn)
  | 0, _, _ => none
  | _ + 1, [], _ => none
  | n + 1, e :: r, dn => if inD dn e.2.1 = true then search es goal n (takeIn ltE (e :: r)) dn
      else if e.2.1 = goal then some (e.1, dn ++ [(e.2.1, some e.2.2)])
      else search es goal n (pushAll e.1 e.2.1 (dn ++ [(e.2.1, some e.2.2)]) (nbrs es e.2.1) (takeIn ltE (e :: r))) (dn ++ [(e.2.1, some e.2.2)])
def foundOf (es : Tab) (start goal : Pr) : Option (Int × Dn) :=
  let d0 : Dn := [(start, none)]
  let h0 := pushAll 0 start d0 (nbrs es start) []
  if start = goal then some (0, d0) else search es goal (h0.length + budget es d0) h0 d0
def befOf : Dn → Pr → Option Pr
  | [], _ => none
  | kv :: r, p => if kv.1 = p then kv.2 else befOf r p
def chain (dn : Dn) : Nat → Pr → List Pr
  | 0, p => [p]
  | n + 1, p => match befOf dn p with
    | none => [p]
    | some b => p :: chain dn n b
/-! bounds -/
theorem takeIn_len (e : E3) (r : List E3) : (takeIn ltE (e :: r)).length = r.length := by
  unfold takeIn
  have h : (e :: r).dropLast.length = r.length := by rw [List.length_dropLast]; rfl
  split
  · rename_i x t z h1 h2
    rw [downGo_len]
    rw [h1] at h
    exact h
  · rename_i h1
    cases hr : (e :: r).dropLast with
    | nil => rw [hr] at h; exact h
    | cons x t =>
      exact (h1 x t _ hr (List.getLast?_eq_some_getLast (by simp))).elim
theorem pushAll_len (len : Int) (here : Pr) (dn : Dn) : ∀ (ts : List Pr) (h : List E3), (pushAll len here dn ts h).length ≤ h.length + ts.length
  | [], h => Nat.le_refl _
  | t :: ts, h => by
    unfold pushAll
    rw [List.foldl_cons]
    have := pushAll_len len here dn ts (if inD dn t = true then h else putIn ltE h (len + steps here t, t, here))
    unfold pushAll at this
    refine Nat.le_trans this ?_
    rw [List.length_cons]
    split
    · omega
    · rw [putIn_len]; omega
theorem inD_snoc (dn : Dn) (k p : Pr) (b : Option Pr) : inD (dn ++ [(k, b)]) p = (inD dn p || decide (k = p)) := by
  unfold inD inTab
  rw [List.any_append, List.any_cons, List.any_nil, Bool.or_false]
theorem degL_sub {es : Tab} {p q : Pr × List Pr → Bool} (h : ∀ kv, p kv = true → q kv = true) : degL (es.filter p) ≤ degL (es.filter q) := by
  induction es with
  | nil => exact Nat.le_refl _
  | cons kv r ih =>
    rw [List.filter_cons, List.filter_cons]
    by_cases hp : p kv = true
    · rw [if_pos hp, if_pos (h kv hp)]
      unfold degL at ih ⊢
      rw [List.map_cons, List.map_cons, List.sum_cons, List.sum_cons]
      exact Nat.add_le_add_left ih _
    · rw [if_neg hp]
      split
      · unfold degL at ih ⊢
        rw [List.map_cons, List.sum_cons]
        omega
      · exact ih
theorem budget_snoc {es : Tab} {dn : Dn} {k : Pr} {b : Option Pr} (h : inD dn k = false) : budget es (dn ++ [(k, b)]) + (nbrs es k).length ≤ budget es dn := by
  unfold budget
  induction es with
  | nil => exact Nat.le_refl _
  | cons kv r ih =>
    rw [List.filter_cons, List.filter_cons, inD_snoc]
    by_cases hk : kv.1 = k
    · have h1 : (!inD dn kv.1) = true := by rw [hk, h]; rfl
      have h2 : (!(inD dn kv.1 || decide (k = kv.1))) = false := by rw [decide_eq_true hk.symm, Bool.or_true]; rfl
      rw [if_pos h1, if_neg (by rw [h2]; exact Bool.false_ne_true)]
      have h3 : nbrs (kv :: r) k = kv.2 := by unfold nbrs; rw [if_pos hk]
      rw [h3]
      have h4 : degL (r.filter fun kv => !inD (dn ++ [(k, b)]) kv.1) ≤ degL (r.filter fun kv => !inD dn kv.1) := degL_sub fun z hz => by
        rw [inD_snoc] at hz
        cases hd : inD dn z.1 with
        | false => rfl
        | true => rw [hd] at hz; cases hz
      have h5 : degL (kv :: r.filter fun kv => !inD dn kv.1) = kv.2.length + degL (r.filter fun kv => !inD dn kv.1) := by
        unfold degL
        rw [List.map_cons, List.sum_cons]
      rw [h5]
      omega
    · have h3 : nbrs (kv :: r) k = nbrs r k := by rw [nbrs, if_neg hk]
      rw [h3]
      have hd : decide (k = kv.1) = false := decide_eq_false fun z => hk z.symm
      rw [hd, Bool.or_false]
      split
      · have h5 : ∀ l : Tab, degL (kv :: l) = kv.2.length + degL l := fun l => by
          unfold degL
          rw [List.map_cons, List.sum_cons]
        rw [h5, h5]
        omega
      · exact ih
theorem budget_le (es : Tab) (dn : Dn) : budget es dn ≤ degL es := by
  have := degL_sub (es := es) (p := fun kv => !inD dn kv.1) (q := fun _ => true) fun _ _ => rfl
  rw [List.filter_eq_self.mpr (fun _ _ => rfl)] at this
  exact this
theorem addTo_deg {es : Tab} {p q : Pr} (nd : (es.map (·.1)).Nodup) : degL (addTo es p q) ≤ degL es + 1 := by
  induction es with
  | nil => exact Nat.zero_le _
  | cons kv r ih =>
    rw [List.map_cons, List.nodup_cons] at nd
    have h5 : ∀ (kv : Pr × List Pr) (l : Tab), degL (kv :: l) = kv.2.length + degL l := fun kv l => by
      unfold degL
      rw [List.map_cons, List.sum_cons]
    have e : addTo (kv :: r) p q = (if kv.1 = p then (kv.1, kv.2 ++ [q]) else kv) :: addTo r p q := rfl
    rw [e, h5, h5]
    by_cases hk : kv.1 = p
    · have : addTo r p q = r := by
        unfold addTo
        refine (List.map_congr_left fun z hz => ?_).trans (List.map_id _)
        rw [if_neg (fun e => nd.1 (List.mem_map.mpr ⟨z, hz, e.trans hk.symm⟩))]
        rfl
      rw [this, if_pos hk]
      show (kv.2 ++ [q]).length + _ ≤ _
      rw [List.length_append, List.length_singleton]
      omega
    · rw [if_neg hk]
      have := ih nd.2
      omega
theorem linkFold_deg (f : Form) : ∀ (l : List (Pr × Pr)) (es : Tab), (es.map (·.1)).Nodup → degL (l.foldl (linkStep f) es) ≤ degL es + 2 * l.length
  | [], es, _ => Nat.le_refl _
  | pq :: l, es, nd => by
    rw [List.foldl_cons]
    have := linkFold_deg f l (linkStep f es pq) (by rw [linkStep_keys]; exact nd)
    have h2 : degL (linkStep f es pq) ≤ degL es + 2 := by
      unfold linkStep
      split
      · have a1 := addTo_deg (p := pq.1) (q := pq.2) nd
        have a2 := addTo_deg (es := addTo es pq.1 pq.2) (p := pq.2) (q := pq.1) (by rw [addTo_keys]; exact nd)
        omega
      · omega
    rw [List.length_cons]
    omega
/-- all that is linked is there -/
def Closed (es : Tab) : Prop := ∀ kv ∈ es, ∀ t ∈ kv.2, t ∈ es.map (·.1)
theorem addTo_mem {es : Tab} {p q : Pr} {kv : Pr × List Pr} {t : Pr} (h : kv ∈ addTo es p q) (ht : t ∈ kv.2) : t = q ∨ ∃ kv' ∈ es, t ∈ kv'.2 := by
  obtain ⟨z, hz, rfl⟩ := List.mem_map.mp h
  by_cases hk : z.1 = p
  · rw [if_pos hk] at ht
    rcases List.mem_append.mp ht with h1 | h1
    · exact .inr ⟨z, hz, h1⟩
    · exact .inl (List.mem_singleton.mp h1)
  · rw [if_neg hk] at ht
    exact .inr ⟨z, hz, ht⟩
theorem linkStep_closed {f : Form} {es : Tab} (h : Closed es) (pq : Pr × Pr) : Closed (linkStep f es pq) := by
  intro kv hkv t ht
  rw [linkStep_keys]
  unfold linkStep at hkv
  split at hkv
  · rename_i hc
    rw [Bool.and_eq_true, Bool.and_eq_true, inTab_iff, inTab_iff] at hc
    rcases addTo_mem hkv ht with rfl | ⟨kv', h1, h2⟩
    · exact hc.1
    · rcases addTo_mem h1 h2 with rfl | ⟨kv'', h3, h4⟩
      · exact hc.2.1
      · exact h kv'' h3 t h4
  · exact h kv hkv t ht
theorem linkFold_closed (f : Form) : ∀ (l : List (Pr × Pr)) (es : Tab), Closed es → Closed (l.foldl (linkStep f) es)
  | [], es, h => h
  | pq :: l, es, h => linkFold_closed f l _ (linkStep_closed h pq)
theorem links_closed (f : Form) (p q : Pr) : Closed (linksOf f p q) := linkFold_closed f _ _ fun kv hkv t ht => by
  obtain ⟨k, _, rfl⟩ := List.mem_map.mp hkv
  cases ht
theorem links_keys (f : Form) (p q : Pr) : (linksOf f p q).map (·.1) = knots f (sortU (colsRaw f p q)) (sortU (rowsRaw f p q)) := by
  unfold linksOf
  dsimp only
  rw [linkFold_keys, List.map_map]
  exact List.map_id _
theorem nbrs_mem {es : Tab} {k t : Pr} (h : t ∈ nbrs es k) : ∃ kv ∈ es, t ∈ kv.2 := by
  induction es with
  | nil => cases h
  | cons kv r ih =>
    rw [nbrs] at h
    split at h
    · exact ⟨kv, List.mem_cons_self, h⟩
    · obtain ⟨z, h1, h2⟩ := ih h
      exact ⟨z, List.mem_cons_of_mem _ h1, h2⟩
end BR
/-! BrM7: the heap keeps its entries; the chain. -/
namespace BR
theorem swap_perm {α : Type} {l : List α} {i j : Nat} {x y : α} (hi : l[i]? = some x) (hj : l[j]? = some y) : ((l.set i y).set j x).Perm l := by
  obtain ⟨h1, rfl⟩ := List.getElem?_eq_some_iff.mp hi
  obtain ⟨h2, rfl⟩ := List.getElem?_eq_some_iff.mp hj
  exact List.set_set_perm h1 h2
section
variable {α : Type} (lt : α → α → Bool)
theorem upGo_perm : ∀ (n : Nat) (l : List α) (k : Nat), (upGo lt n l k).Perm l
  | 0, l, k => .refl _
  | n + 1, l, k => by
    unfold upGo
    split
    · exact .refl _
    · split
      · rename_i x y h1 h2
        split
        · exact (upGo_perm n _ _).trans (swap_perm h1 h2)
        · exact .refl _
      · exact .refl _
theorem putIn_perm (l : List α) (x : α) : (putIn lt l x).Perm (x :: l) := (upGo_perm lt _ _ _).trans List.perm_append_comm
theorem downGo_perm : ∀ (n : Nat) (l : List α) (k : Nat), (downGo lt n l k).Perm l
  | 0, l, k => .refl _
  | n + 1, l, k => by
    unfold downGo
    split
    · rename_i x y h1 h2
      split
      · exact (downGo_perm n _ _).trans (swap_perm h1 h2)
      · exact .refl _
    · exact .refl _
theorem takeIn_perm (e : α) (r : List α) : (takeIn lt (e :: r)).Perm r := by
  unfold takeIn
  split
  · rename_i x t z h1 h2
    refine (downGo_perm lt _ _ _).trans ?_
    have hz : (e :: r) = (x :: t) ++ [z] := by
      rw [← h1]
      rw [List.getLast?_eq_some_getLast (by simp)] at h2
      cases h2
      exact (List.dropLast_concat_getLast (by simp)).symm
    rw [List.cons_append] at hz
    obtain ⟨rfl, rfl⟩ := List.cons.inj hz
    exact List.perm_append_comm (l₁ := [z])
  · rename_i h1
    cases hr : (e :: r).dropLast with
    | nil =>
      have h : (e :: r).dropLast.length = r.length := by rw [List.length_dropLast]; rfl
      rw [hr] at h
      rw [List.length_eq_zero_iff.mp h.symm]
    | cons x t => exact (h1 x t _ hr (List.getLast?_eq_some_getLast (by simp))).elim
theorem mem_putIn {l : List α} {x y : α} (h : y ∈ putIn lt l x) : y = x ∨ y ∈ l := by
  rw [(putIn_perm lt l x).mem_iff] at h
  exact List.mem_cons.mp h
theorem mem_takeIn {e y : α} {r : List α} (h : y ∈ takeIn lt (e :: r)) : y ∈ r := (takeIn_perm lt e r).mem_iff.mp h
end
theorem inD_iff {dn : Dn} {p : Pr} : inD dn p = true ↔ p ∈ dn.map (·.1) := inTab_iff
structure GoodD (dn : Dn) : Prop where
  nd : (dn.map (·.1)).Nodup
  bf : ∀ pre kv post, dn = pre ++ kv :: post → ∀ b, kv.2 = some b → b ∈ pre.map (·.1)
theorem GoodD.snoc {dn : Dn} (g : GoodD dn) {k : Pr} {b : Option Pr} (h : inD dn k = false) (hb : ∀ x, b = some x → inD dn x = true) : GoodD (dn ++ [(k, b)]) := by
  refine ⟨?_, fun pre kv post e x hx => ?_⟩
  · rw [List.map_append]
    refine List.nodup_append.mpr ⟨g.nd, by simp, fun a ha c hc e => ?_⟩
    have : c = k := by simpa using hc
    subst this
    subst e
    rw [inD_iff.mpr ha] at h
    cases h
  · rcases List.eq_nil_or_concat post with rfl | ⟨p', z, rfl⟩
    · have := List.append_inj' e rfl
      obtain ⟨rfl, h2⟩ := this
      have : kv = (k, b) := (List.singleton_inj.mp h2).symm
      subst this
      exact inD_iff.mp (hb x hx)
    · rw [List.concat_eq_append, ← List.cons_append, ← List.append_assoc] at e
      obtain ⟨e1, _⟩ := List.append_inj' e rfl
      exact g.bf pre kv p' e1 x hx
theorem befOf_at {pre post : Dn} {p : Pr} {b : Option Pr} (h : p ∉ pre.map (·.1)) : befOf (pre ++ (p, b) :: post) p = b := by
  induction pre with
  | nil =>
    show (if p = p then b else _) = b
    rw [if_pos rfl]
  | cons kv r ih =>
    rw [List.map_cons, List.mem_cons, not_or] at h
    show (if kv.1 = p then _ else befOf (r ++ (p, b) :: post) p) = b
    rw [if_neg (fun z => h.1 z.symm)]
    exact ih h.2
theorem GoodD.split {dn : Dn} (g : GoodD dn) {p : Pr} (h : p ∈ dn.map (·.1)) : ∃ pre b post, dn = pre ++ (p, b) :: post ∧ p ∉ pre.map (·.1) := by
  obtain ⟨⟨p', b⟩, hm, rfl⟩ := List.mem_map.mp h
  obtain ⟨pre, post, e⟩ := List.append_of_mem hm
  refine ⟨pre, b, post, e, fun hp => ?_⟩
  have nd := g.nd
  rw [e, List.map_append, List.map_cons] at nd
  exact (List.nodup_append.mp nd).2.2 _ hp _ List.mem_cons_self rfl
theorem GoodD.bef {dn : Dn} (g : GoodD dn) {pre post : Dn} {p b : Pr} (e : dn = pre ++ (p, some b) :: post) : ∃ pre' b' post', dn = pre' ++ (b, b') :: post' ∧ b ∉ pre'.map (·.1) ∧ pre'.length < pre.length := by
  have hb := g.bf pre _ post e b rfl
  obtain ⟨⟨q, b'⟩, hm, rfl⟩ := List.mem_map.mp hb
  obtain ⟨a, c, e2⟩ := List.append_of_mem hm
  refine ⟨a, b', c ++ (p, some q) :: post, by rw [e, e2, List.append_assoc]; rfl, fun hp => ?_, by rw [e2, List.length_append, List.length_cons]; omega⟩
  have nd := g.nd
  rw [e, e2, List.append_assoc, List.map_append, List.cons_append, List.map_cons] at nd
  exact (List.nodup_append.mp nd).2.2 _ hp _ List.mem_cons_self rfl
end BR
/-! BrM8: the law's pool. -/
namespace BR
abbrev Pool := Int × Int
def takeV (p : Pool) (m : Int) : Int := if 0 < p.1 then p.1 % m else ((p.2 * 48271 + 11) % 2147483647) * ((p.2 * 48271 + 11) % 2147483647) % 2147483629 / 64 % m
def takeS (p : Pool) (m : Int) : Pool := if 0 < p.1 then (p.1 / m, p.2) else (p.1, (p.2 * 48271 + 11) % 2147483647)
def PoolOk (p : Pool) : Prop := 0 ≤ p.1 ∧ 0 ≤ p.2 ∧ p.2 < 2147483647
theorem takeS_ok {p : Pool} {m : Int} (h : PoolOk p) (hm : 0 < m) : PoolOk (takeS p m) := by
  unfold takeS
  split
  · exact ⟨Int.ediv_nonneg h.1 (Int.le_of_lt hm), h.2⟩
  · exact ⟨h.1, Int.emod_nonneg _ (by decide), Int.emod_lt_of_pos _ (by decide)⟩
theorem takeV_ok {p : Pool} {m : Int} (hm : 0 < m) : 0 ≤ takeV p m ∧ takeV p m < m := by
  unfold takeV
  split
  · exact ⟨Int.emod_nonneg _ (Int.ne_of_gt hm), Int.emod_lt_of_pos _ hm⟩
  · exact ⟨Int.emod_nonneg _ (Int.ne_of_gt hm), Int.emod_lt_of_pos _ hm⟩
def cellOf (ns : List Int) (k : Nat) : Int := match ns[k]? with
  | some x => x
  | none => 0
def absZ (i : Int) : Int := if i < 0 then -i else i
def poolOf (ns : List Int) (k : Nat) : Pool :=
  (absZ (cellOf ns k) * (if 1000000000000000000 ≤ absZ (cellOf ns k) then 1 else 0), (absZ (cellOf ns k) % 2147483629 + 7919 * (k : Int) * (k : Int) + 13) * 48271 % 2147483647)
theorem poolOf_ok (ns : List Int) (k : Nat) : PoolOk (poolOf ns k) := by
  refine ⟨?_, Int.emod_nonneg _ (by decide), Int.emod_lt_of_pos _ (by decide)⟩
  refine Int.mul_nonneg ?_ (by split <;> decide)
  unfold absZ
  split <;> omega
def cellStep (many : Int) (x : Nat) (s : Pool × List Pr) (y : Nat) : Pool × List Pr := (takeS s.1 5, if takeV s.1 5 < many then s.2 ++ [((x : Int), (y : Int))] else s.2)
def rowOf (many : Int) (s : Pool × List Pr) (x : Nat) : Pool × List Pr := (List.range (1 + takeV s.1 5).toNat).foldl (cellStep many x) (takeS s.1 5, s.2)
def cellsOf (p : Pool) : Pool × List Pr :=
  (List.range (1 + takeV (takeS p 4) 5).toNat).foldl (rowOf (1 + takeV p 4)) (takeS (takeS p 4) 5, [])
theorem fold_succ {α : Type} (f : α → Nat → α) (a : α) (i : Nat) : (List.range (i + 1)).foldl f a = f ((List.range i).foldl f a) i := by
  rw [List.range_succ, List.foldl_append]
  rfl
def lineStep (s : Pool × List Int) : Pool × List Int :=
  let a := takeV s.1 3
  let s1 := takeS s.1 3
  let b := takeV s1 1000000
  let s2 := takeS s1 1000000
  let c := takeV s2 3
  (takeS s2 3, s.2 ++ [s.2.getLastD 0 + (if c = 0 then 1 else if c = 1 then 1 + a else 1 + b * 10000000000000000000000)])
def lineStart (c : Int) : Int := if c = 0 then 0 else if c = 1 then -100000000000000000000000000000 else 5
def linesOf (p : Pool) : Pool × List Int := (List.range 5).foldl (fun s _ => lineStep s) (takeS p 3, [lineStart (takeV p 3)])
end BR
/-! BrM9: the law's region and squares. -/
namespace BR
def atZ (xs : List Int) (i : Int) : Int := xs.getD i.toNat 0
def boxAt (xs ys : List Int) (c : Pr) : Box := (atZ xs c.1, atZ ys c.2, atZ xs (c.1 + 1), atZ ys (c.2 + 1))
def madeF (xs ys : List Int) (cells : List Pr) : Form := cells.foldl (fun f c => mixed f (slabsOf [boxAt xs ys c]) .or) []
def pick3 (a b c v : Int) : Int := if v = 0 then a else if v = 1 then b else c
def farSq (p : Pool) (xs ys : List Int) (c : Pr) : Pool × Pr :=
  let s1 := takeS p 3
  (takeS s1 3, (pick3 (atZ xs c.1) (atZ xs (c.1 + 1) - 1) (atZ xs c.1 + (atZ xs (c.1 + 1) - atZ xs c.1) / 3) (takeV p 3),
    pick3 (atZ ys c.2) (atZ ys (c.2 + 1) - 1) (atZ ys c.2 + (atZ ys (c.2 + 1) - atZ ys c.2) / 2) (takeV s1 3)))
/-- a cell of the grid -/
structure CellOk (xs ys : List Int) (c : Pr) : Prop where
  x0 : 0 ≤ c.1
  x1 : c.1 + 1 < xs.length
  y0 : 0 ≤ c.2
  y1 : c.2 + 1 < ys.length
end BR
/-! BrMA: tables; the law's crossings, links, lengths. -/
namespace BR
/-- a dict as a table -/
def gt {β : Type} : List (Pr × β) → Pr → Option β
  | [], _ => none
  | kv :: r, p => if kv.1 = p then some kv.2 else gt r p
/-- in its place, or at the end -/
def pt {β : Type} (es : List (Pr × β)) (p : Pr) (b : β) : List (Pr × β) :=
  if (es.any fun kv => decide (kv.1 = p)) = true then es.map (fun kv => if kv.1 = p then (kv.1, b) else kv) else es ++ [(p, b)]
theorem gt_none {β : Type} {es : List (Pr × β)} {p : Pr} : gt es p = none ↔ (es.any fun kv => decide (kv.1 = p)) = false := by
  induction es with
  | nil => simp [gt]
  | cons kv r ih =>
    unfold gt
    rw [List.any_cons]
    by_cases h : kv.1 = p
    · simp [h]
    · rw [if_neg h, ih]
      simp [h]
theorem gt_pt {β : Type} (es : List (Pr × β)) (p q : Pr) (b : β) : gt (pt es p b) q = if q = p then some b else gt es q := by
  unfold pt
  by_cases h : (es.any fun kv => decide (kv.1 = p)) = true
  · rw [if_pos h]
    induction es with
    | nil => simp at h
    | cons kv r ih =>
      rw [List.map_cons]
      by_cases h1 : kv.1 = p
      · rw [if_pos h1]
        unfold gt
        by_cases h2 : q = p
        · subst h2
          rw [if_pos h1, if_pos rfl]
        · rw [if_neg (fun z => h2 (z.symm.trans h1)), if_neg h2, if_neg (fun z => h2 (z.symm.trans h1))]
          by_cases h3 : (r.any fun kv => decide (kv.1 = p)) = true
          · have := ih h3
            rw [if_neg h2] at this
            exact this
          · have e : r.map (fun kv => if kv.1 = p then (kv.1, b) else kv) = r := by
              refine (List.map_congr_left fun x hx => ?_).trans (List.map_id r)
              have : ¬ x.1 = p := fun z => h3 (List.any_eq_true.mpr ⟨x, hx, decide_eq_true z⟩)
              rw [if_neg this]
              rfl
            rw [e]
      · rw [if_neg h1]
        unfold gt
        by_cases h2 : kv.1 = q
        · rw [if_pos h2, if_pos h2, if_neg (fun z => h1 (h2.trans z))]
        · rw [if_neg h2, if_neg h2]
          refine ih ?_
          rw [List.any_cons, decide_eq_false h1, Bool.false_or] at h
          exact h
  · rw [if_neg h]
    induction es with
    | nil =>
      show gt [(p, b)] q = _
      unfold gt
      by_cases h2 : q = p
      · rw [if_pos h2.symm, if_pos h2]
      · rw [if_neg (Ne.symm h2), if_neg h2]
        rfl
    | cons kv r ih =>
      rw [List.any_cons, Bool.or_eq_true, not_or] at h
      rw [List.cons_append]
      unfold gt
      have h1 : ¬ kv.1 = p := fun z => h.1 (decide_eq_true z)
      by_cases h2 : kv.1 = q
      · rw [if_pos h2, if_pos h2, if_neg (fun z => h1 (h2.trans z))]
      · rw [if_neg h2, if_neg h2]
        exact ih h.2
theorem pt_len {β : Type} (es : List (Pr × β)) (p : Pr) (b : β) : (pt es p b).length ≤ es.length + 1 := by
  unfold pt
  split
  · rw [List.length_map]; omega
  · rw [List.length_append, List.length_singleton]; omega
def lcRaw (xs : List Int) (a b : Int) : List Int := [a, b] ++ xs.dropLast ++ (xs.drop 1).map fun x => x - 1
def cellHas (xs ys : List Int) (c : Pr) (p : Pr) : Bool := decide (atZ xs c.1 ≤ p.1 ∧ p.1 < atZ xs (c.1 + 1)) && decide (atZ ys c.2 ≤ p.2 ∧ p.2 < atZ ys (c.2 + 1))
abbrev Own := List (Pr × Bool)
def ownY (xs ys : List Int) (c : Pr) (x : Int) (es : Own) (y : Int) : Own := if cellHas xs ys c (x, y) = true then pt es (x, y) true else es
def ownX (xs ys : List Int) (rows : List Int) (c : Pr) (es : Own) (x : Int) : Own := rows.foldl (ownY xs ys c x) es
def ownC (xs ys : List Int) (cols rows : List Int) (es : Own) (c : Pr) : Own := cols.foldl (ownX xs ys rows c) es
def ownOf (cells : List Pr) (xs ys cols rows : List Int) : Own := cells.foldl (ownC xs ys cols rows) []
theorem ownY_len (xs ys : List Int) (c : Pr) (x : Int) : ∀ (l : List Int) (es : Own), (l.foldl (ownY xs ys c x) es).length ≤ es.length + l.length
  | [], es => Nat.le_refl _
  | y :: l, es => by
    rw [List.foldl_cons, List.length_cons]
    have h := ownY_len xs ys c x l (ownY xs ys c x es y)
    have h2 : (ownY xs ys c x es y).length ≤ es.length + 1 := by
      unfold ownY
      split
      · exact pt_len ..
      · omega
    omega
theorem ownX_len (xs ys rows : List Int) (c : Pr) : ∀ (l : List Int) (es : Own), (l.foldl (ownX xs ys rows c) es).length ≤ es.length + l.length * rows.length
  | [], es => by simp
  | x :: l, es => by
    rw [List.foldl_cons, List.length_cons, Nat.succ_mul]
    have h := ownX_len xs ys rows c l (ownX xs ys rows c es x)
    have h2 := ownY_len xs ys c x rows es
    unfold ownX at h
    unfold ownX
    omega
theorem ownC_len (xs ys cols rows : List Int) : ∀ (l : List Pr) (es : Own), (l.foldl (ownC xs ys cols rows) es).length ≤ es.length + l.length * (cols.length * rows.length)
  | [], es => by simp
  | c :: l, es => by
    rw [List.foldl_cons, List.length_cons, Nat.succ_mul]
    have h := ownC_len xs ys cols rows l (ownC xs ys cols rows es c)
    have h2 := ownX_len xs ys rows c cols es
    unfold ownC at h
    unfold ownC
    omega
def wayLen (f : Form) (o : Bool) (p q : Pr) : Option Int := (foundOf (linksOf (nearForm f o p q) p q) p q).map (·.1)

/-! the law's links -/
def prevI (l : List Int) (i : Nat) : Int := if i = 0 then l.getLastD 0 else l.getD (i - 1) 0
def llStep (own : Own) (h : Pr) (es : Tab) (q : Pr) : Tab := if (ltPr' q h && ((gt own q).isSome && (gt own h).isSome)) = true then addTo (addTo es q h) h q else es
def llY (own : Own) (cols rows : List Int) (i : Nat) (x : Int) (es : Tab) (jy : Nat × Int) : Tab := [(prevI cols i, jy.2), (x, prevI rows jy.1)].foldl (llStep own (x, jy.2)) es
/-- numbered from n on -/
def enum {α : Type} : Nat → List α → List (Nat × α)
  | _, [] => []
  | n, x :: l => (n, x) :: enum (n + 1) l
def llX (own : Own) (cols rows : List Int) (es : Tab) (ix : Nat × Int) : Tab := (enum 0 rows).foldl (llY own cols rows ix.1 ix.2) es
def lawLinks (cols rows : List Int) (own : Own) : Tab := (enum 0 cols).foldl (llX own cols rows) (own.map fun kv => (kv.1, []))
/-! the law's search -/
abbrev Lst := List (Pr × Int)
def llRelax (far : Int) (here : Pr) (least : Lst) (t : Pr) : Lst :=
  pt least t (mn2 (far + absI (t.1 - here.1) + absI (t.2 - here.2)) ((gt least t).getD (far + absI (t.1 - here.1) + absI (t.2 - here.2))))
def llLeft (least : Lst) (done : Own) : List (Int × Pr) := (least.filter fun kv => !(gt done kv.1).isSome).map fun kv => (kv.2, kv.1)
def ltI2 (a b : Int × Pr) : Bool := decide (a.1 < b.1) || (decide (a.1 = b.1) && ltPr' a.2 b.2)
def minE : Int × Pr → List (Int × Pr) → Int × Pr
  | m, [] => m
  | m, e :: r => minE (if ltI2 e m = true then e else m) r
def llGo (links : Tab) (goal : Pr) : Nat → Lst → Own → Option Int
  | 0, _, _ => none
  | n + 1, least, done => if (gt done goal).isSome = true then gt least goal else match llLeft least done with
    | [] => none
    | e :: r => llGo links goal n ((nbrs links (minE e r).2).foldl (llRelax (minE e r).1 (minE e r).2) least) (pt done (minE e r).2 true)
def lawCols (xs : List Int) (p q : Pr) : List Int := sortU (lcRaw xs p.1 q.1)
def lawRows (ys : List Int) (p q : Pr) : List Int := sortU (lcRaw ys p.2 q.2)
def lawTab (cells : List Pr) (xs ys : List Int) (p q : Pr) : Tab := lawLinks (lawCols xs p q) (lawRows ys p q) (ownOf cells xs ys (lawCols xs p q) (lawRows ys p q))
def lawLen (cells : List Pr) (xs ys : List Int) (p q : Pr) : Option Int := llGo (lawTab cells xs ys p q) q ((lawTab cells xs ys p q).length + 1) [(p, 0)] []
end BR
/-! BrMB: sorted lists of pairs without doubles; the law's turn, plainly. -/
namespace BR
theorem ltP_iff {p q : Pr} : ltPr' p q = true ↔ p.1 < q.1 ∨ (p.1 = q.1 ∧ p.2 < q.2) := by simp [ltPr']
def insPU (x : Pr) : List Pr → List Pr
  | [] => [x]
  | y :: l => if ltPr' x y = true then x :: y :: l else if x = y then y :: l else y :: insPU x l
def sortPU (l : List Pr) : List Pr := l.foldr insPU []
theorem mem_insPU {x k : Pr} : ∀ {l : List Pr}, k ∈ insPU x l ↔ k = x ∨ k ∈ l
  | [] => by simp [insPU]
  | y :: l => by
    unfold insPU
    split
    · simp
    · split
      · rename_i h; subst h; simp
      · rw [List.mem_cons, mem_insPU, List.mem_cons]
        constructor
        · rintro (h | h | h)
          · exact .inr (.inl h)
          · exact .inl h
          · exact .inr (.inr h)
        · rintro (h | h | h)
          · exact .inr (.inl h)
          · exact .inl h
          · exact .inr (.inr h)
abbrev RiseP (l : List Pr) : Prop := l.Pairwise fun p q => ltPr' p q = true
theorem insPU_pw {x : Pr} : ∀ {l : List Pr}, RiseP l → RiseP (insPU x l)
  | [], _ => by simp [insPU, RiseP]
  | y :: l, h => by
    obtain ⟨h1, h2⟩ := List.pairwise_cons.mp h
    unfold insPU
    split
    · rename_i hxy
      refine List.pairwise_cons.mpr ⟨fun z hz => ?_, h⟩
      rcases List.mem_cons.mp hz with e | hz
      · rw [e]; exact hxy
      · have := h1 z hz
        rw [ltP_iff] at *
        omega
    · split
      · exact h
      · rename_i a b
        refine List.pairwise_cons.mpr ⟨fun z hz => ?_, insPU_pw h2⟩
        rcases mem_insPU.mp hz with e | hz
        · subst e
          rw [ltP_iff] at *
          have : ¬ (z.1 = y.1 ∧ z.2 = y.2) := fun w => b (Prod.ext w.1 w.2)
          omega
        · exact h1 z hz
theorem mem_sortPU {k : Pr} : ∀ {l : List Pr}, k ∈ sortPU l ↔ k ∈ l
  | [] => by simp [sortPU]
  | x :: l => by
    show k ∈ insPU x (sortPU l) ↔ _
    rw [mem_insPU, mem_sortPU, List.mem_cons]
theorem sortPU_pw : ∀ {l : List Pr}, RiseP (sortPU l)
  | [] => by simp [sortPU, RiseP]
  | x :: l => insPU_pw sortPU_pw
theorem ltP_irr {p : Pr} (h : ltPr' p p = true) : False := by
  rw [ltP_iff] at h
  omega
theorem riseP_eq : ∀ {l m : List Pr}, RiseP l → RiseP m → (∀ k, k ∈ l ↔ k ∈ m) → l = m
  | [], [], _, _, _ => rfl
  | [], b :: m, _, _, h => absurd ((h b).mpr List.mem_cons_self) (by simp)
  | a :: l, [], _, _, h => absurd ((h a).mp List.mem_cons_self) (by simp)
  | a :: l, b :: m, hl, hm, h => by
    obtain ⟨h1, h2⟩ := List.pairwise_cons.mp hl
    obtain ⟨g1, g2⟩ := List.pairwise_cons.mp hm
    have e : a = b := by
      rcases List.mem_cons.mp ((h a).mp List.mem_cons_self) with e | ha
      · exact e
      · rcases List.mem_cons.mp ((h b).mpr List.mem_cons_self) with e | hb
        · exact e.symm
        · have k1 := h1 b hb
          have k2 := g1 a ha
          rw [ltP_iff] at k1 k2
          omega
    subst e
    congr 1
    refine riseP_eq h2 g2 fun k => ?_
    constructor
    · intro hk
      rcases List.mem_cons.mp ((h k).mp (List.mem_cons_of_mem _ hk)) with e | q
      · subst e
        exact (ltP_irr (h1 k hk)).elim
      · exact q
    · intro hk
      rcases List.mem_cons.mp ((h k).mpr (List.mem_cons_of_mem _ hk)) with e | q
      · subst e
        exact (ltP_irr (g1 k hk)).elim
      · exact q
theorem sortPU_nd {l : List Pr} : (sortPU l).Nodup := sortPU_pw.imp fun {a b} h e => by
  subst e
  exact ltP_irr h
end BR
/-! BrMC: a turn of the law. -/
namespace BR
def tXs (p : Pool) : List Int := (linesOf p).2
def tP1 (p : Pool) : Pool := (linesOf p).1
def tYs (p : Pool) : List Int := (linesOf (tP1 p)).2
def tP2 (p : Pool) : Pool := (linesOf (tP1 p)).1
def tRaw (p : Pool) : List Pr := (cellsOf (tP2 p)).2 ++ [(0, 0)]
def tP3 (p : Pool) : Pool := (cellsOf (tP2 p)).1
def tCells (p : Pool) : List Pr := sortPU (tRaw p)
def tForm (p : Pool) : Form := madeF (tXs p) (tYs p) (tCells p)
def farStep (xs ys : List Int) (cells : List Pr) (s : Pool × List Pr) : Pool × List Pr :=
  let v := takeV s.1 (cells.length : Nat)
  let q := farSq (takeS s.1 (cells.length : Nat)) xs ys (cells.getD v.toNat (0, 0))
  (q.1, s.2 ++ [q.2])
def farN (xs ys : List Int) (cells : List Pr) (p : Pool) (i : Nat) : Pool × List Pr := (List.range i).foldl (fun s _ => farStep xs ys cells s) (p, [])
def tSome (p : Pool) : Pool × List Pr := farN (tXs p) (tYs p) (tCells p) (tP3 p) 3
def tLen (p : Pool) (k : Pr × Pr) : Option Int := lawLen (tCells p) (tXs p) (tYs p) k.1 k.2
def tBox (p : Pool) : Box := (atZ (tXs p) 0, atZ (tYs p) 0, atZ (tXs p) 5, atZ (tYs p) 5)
def tE0 (p : Pool) : Pr := (atZ (tXs p) 0 - 1, atZ (tYs p) 2)
def tE1 (p : Pool) : Pr := (atZ (tXs p) 5, atZ (tYs p) 2)
def tTotal (p : Pool) : Int := 2 * mn2 (atZ (tYs p) 2 - atZ (tYs p) 0 + 1) (atZ (tYs p) 5 - atZ (tYs p) 2) + atZ (tXs p) 5 - atZ (tXs p) 0 + 1
end BR
/-! BrY1: ways of unit steps; lines; least lengths along lines are least lengths. -/
namespace BR
def Adj (p q : Pr) : Prop := (p.1 = q.1 ∧ (p.2 = q.2 + 1 ∨ q.2 = p.2 + 1)) ∨ (p.2 = q.2 ∧ (p.1 = q.1 + 1 ∨ q.1 = p.1 + 1))
inductive Way (S : Pr → Prop) (s : Pr) : Int → Pr → Prop
  | zero : S s → Way S s 0 s
  | snoc {n : Int} {p q : Pr} : Way S s n p → Adj p q → S q → Way S s (n + 1) q
/-- the least length, or none -/
def IsLen0 (S : Pr → Prop) (p q : Pr) : Option Int → Prop
  | none => ∀ n, ¬ Way S p n q
  | some n => Way S p n q ∧ ∀ m, Way S p m q → n ≤ m
structure IsLen (S : Pr → Prop) (p q : Pr) (a : Option Int) : Prop where
  h : IsLen0 S p q a
theorem Adj.symm {p q : Pr} (h : Adj p q) : Adj q p := by
  unfold Adj at *
  omega
theorem Adj.steps {p q : Pr} (h : Adj p q) : steps p q = 1 := by
  unfold Adj at h
  unfold BR.steps absI
  omega
section
variable {S T : Pr → Prop} {s p q : Pr} {n m : Int}
theorem Way.at_end (h : Way S s n p) : S p := by
  cases h with
  | zero h => exact h
  | snoc _ _ h => exact h
theorem Way.at_start (h : Way S s n p) : S s := by
  induction h with
  | zero h => exact h
  | snoc _ _ _ ih => exact ih
theorem Way.pos (h : Way S s n p) : 0 ≤ n := by
  induction h with
  | zero h => exact Int.le_refl _
  | snoc _ _ _ ih => omega
theorem Way.cast (h : Way S s n p) (e : n = m) : Way S s m p := e ▸ h
theorem Way.trans (h : Way S s n p) (h' : Way S p m q) : Way S s (n + m) q := by
  induction h' with
  | zero _ => exact h.cast (by omega)
  | snoc _ a b ih => exact (ih.snoc a b).cast (by omega)
theorem Way.one (hp : S p) (hq : S q) (a : Adj p q) : Way S p 1 q := ((Way.zero hp).snoc a hq).cast (by omega)
theorem Way.symm (h : Way S s n p) : Way S p n s := by
  induction h with
  | zero h => exact .zero h
  | snoc h a b ih => exact ((Way.one b h.at_end a.symm).trans ih).cast (by omega)
theorem Way.far (h : Way S s n p) : BR.steps s p ≤ n ∧ (n - BR.steps s p) % 2 = 0 := by
  induction h with
  | zero h => unfold BR.steps absI; omega
  | snoc h a b ih =>
    unfold BR.steps absI Adj at *
    omega
theorem Way.map {f : Pr → Pr} (hf : ∀ p, S p → T (f p)) (ha : ∀ p q, Adj p q → Adj (f p) (f q)) (h : Way S s n p) : Way T (f s) n (f p) := by
  induction h with
  | zero h => exact .zero (hf _ h)
  | snoc h a b ih => exact ih.snoc (ha _ _ a) (hf _ b)
theorem Way.mono (hf : ∀ p, S p → T p) (h : Way S s n p) : Way T s n p := h.map (f := id) hf fun _ _ a => a
theorem IsLen.uniq {a b : Option Int} (h : IsLen S p q a) (h' : IsLen S p q b) : a = b := by
  obtain ⟨h⟩ := h
  obtain ⟨h'⟩ := h'
  cases a with
  | none => cases b with
    | none => rfl
    | some m => exact (h m h'.1).elim
  | some n => cases b with
    | none => exact (h' n h.1).elim
    | some m =>
      have h1 := h.2 m h'.1
      have h2 := h'.2 n h.1
      rw [Int.le_antisymm h1 h2]
theorem IsLen.iff {a : Option Int} (e : ∀ p, S p ↔ T p) (h : IsLen S p q a) : IsLen T p q a := by
  obtain ⟨h⟩ := h
  refine ⟨?_⟩
  cases a with
  | none => exact fun n z => h n (z.mono fun p => (e p).mpr)
  | some m => exact ⟨h.1.mono fun p => (e p).mp, fun k z => h.2 k (z.mono fun p => (e p).mpr)⟩
theorem IsLen.map {f g : Pr → Pr} {a : Option Int} (hf : ∀ p, S p → T (f p)) (hg : ∀ p, T p → S (g p)) (af : ∀ p q, Adj p q → Adj (f p) (f q)) (ag : ∀ p q, Adj p q → Adj (g p) (g q)) (hgf : ∀ p, g (f p) = p) (h : IsLen S p q a) : IsLen T (f p) (f q) a := by
  obtain ⟨h⟩ := h
  refine ⟨?_⟩
  cases a with
  | none => exact fun n z => h n (by have := z.map hg ag; rwa [hgf, hgf] at this)
  | some m => exact ⟨h.1.map hf af, fun k z => h.2 k (by have := z.map hg ag; rwa [hgf, hgf] at this)⟩
end
/-! ### straight pieces -/
def Btw (a z b : Int) : Prop := (a ≤ z ∧ z ≤ b) ∨ (b ≤ z ∧ z ≤ a)
def Seg (S : Pr → Prop) (p q : Pr) : Prop := ∀ z : Pr, Btw p.1 z.1 q.1 → Btw p.2 z.2 q.2 → S z
theorem Seg.symm {S : Pr → Prop} {p q : Pr} (h : Seg S p q) : Seg S q p := fun z h1 h2 => h z (by unfold Btw at *; omega) (by unfold Btw at *; omega)
theorem way_up {S : Pr → Prop} {x y : Int} : ∀ (k : Nat), (∀ j : Int, y ≤ j → j ≤ y + k → S (x, j)) → Way S (x, y) k (x, y + k)
  | 0, h => by
    have := h y (by omega) (by omega)
    show Way S (x, y) 0 (x, y + 0)
    rw [Int.add_zero]
    exact .zero this
  | k + 1, h => by
    have ih := way_up k fun j a b => h j a (by omega)
    exact (ih.snoc (q := (x, y + ((k + 1 : Nat) : Int))) (by unfold Adj; dsimp only; omega) (h _ (by omega) (by omega))).cast (by omega)
theorem way_right {S : Pr → Prop} {x y : Int} : ∀ (k : Nat), (∀ j : Int, x ≤ j → j ≤ x + k → S (j, y)) → Way S (x, y) k (x + k, y)
  | 0, h => by
    have := h x (by omega) (by omega)
    show Way S (x, y) 0 (x + 0, y)
    rw [Int.add_zero]
    exact .zero this
  | k + 1, h => by
    have ih := way_right k fun j a b => h j a (by omega)
    exact (ih.snoc (q := (x + ((k + 1 : Nat) : Int), y)) (by unfold Adj; dsimp only; omega) (h _ (by omega) (by omega))).cast (by omega)
theorem way_seg {S : Pr → Prop} {p q : Pr} (h : Seg S p q) (e : p.1 = q.1 ∨ p.2 = q.2) : Way S p (steps p q) q := by
  have up : ∀ {p q : Pr}, Seg S p q → p.1 = q.1 → p.2 ≤ q.2 → Way S p (steps p q) q := fun {p q} h e l => by
    obtain ⟨x, y⟩ := p
    obtain ⟨x', y'⟩ := q
    dsimp only at e l
    subst e
    have w := way_up (S := S) (x := x) (y := y) (y' - y).toNat fun j a b => h (x, j) (by unfold Btw; dsimp only; omega) (by unfold Btw; dsimp only; omega)
    have e1 : (((y' - y).toNat : Nat) : Int) = y' - y := by omega
    rw [e1, show y + (y' - y) = y' by omega] at w
    exact w.cast (by unfold steps absI; dsimp only; omega)
  have rt : ∀ {p q : Pr}, Seg S p q → p.2 = q.2 → p.1 ≤ q.1 → Way S p (steps p q) q := fun {p q} h e l => by
    obtain ⟨x, y⟩ := p
    obtain ⟨x', y'⟩ := q
    dsimp only at e l
    subst e
    have w := way_right (S := S) (x := x) (y := y) (x' - x).toNat fun j a b => h (j, y) (by unfold Btw; dsimp only; omega) (by unfold Btw; dsimp only; omega)
    have e1 : (((x' - x).toNat : Nat) : Int) = x' - x := by omega
    rw [e1, show x + (x' - x) = x' by omega] at w
    exact w.cast (by unfold steps absI; dsimp only; omega)
  have sy : steps q p = steps p q := by unfold steps absI; omega
  rcases e with e | e
  · by_cases l : p.2 ≤ q.2
    · exact up h e l
    · have := (up h.symm e.symm (by omega)).symm
      rw [sy] at this
      exact this
  · by_cases l : p.1 ≤ q.1
    · exact rt h e l
    · have := (rt h.symm e.symm (by omega)).symm
      rw [sy] at this
      exact this
/-! ### graphs of squares -/
inductive GP (N : Pr → Pr → Prop) (s : Pr) : Int → Pr → Prop
  | zero : GP N s 0 s
  | snoc {n : Int} {p q : Pr} : GP N s n p → N p q → GP N s (n + steps p q) q
def GLen (N : Pr → Pr → Prop) (p q : Pr) : Option Int → Prop
  | none => ∀ n, ¬ GP N p n q
  | some n => GP N p n q ∧ ∀ m, GP N p m q → n ≤ m
theorem steps_nn (p q : Pr) : 0 ≤ steps p q := by unfold steps absI; omega
theorem GP.cast {N : Pr → Pr → Prop} {s p : Pr} {n m : Int} (h : GP N s n p) (e : n = m) : GP N s m p := e ▸ h
/-- neighbouring lines -/
def NbL (C : List Int) (a b : Int) : Prop := a ∈ C ∧ b ∈ C ∧ a ≠ b ∧ ∀ z ∈ C, ¬ (a < z ∧ z < b) ∧ ¬ (b < z ∧ z < a)
/-- the line at or next to -/
def Nb (C : List Int) (x c : Int) : Prop := c ∈ C ∧ ∀ z ∈ C, ¬ (c < z ∧ z ≤ x) ∧ ¬ (x ≤ z ∧ z < c)
def GE (S : Pr → Prop) (C R : List Int) (p q : Pr) : Prop := ((p.2 = q.2 ∧ p.2 ∈ R ∧ NbL C p.1 q.1) ∨ (p.1 = q.1 ∧ p.1 ∈ C ∧ NbL R p.2 q.2)) ∧ Seg S p q
theorem Nb.self {C : List Int} {x : Int} (h : x ∈ C) : Nb C x x := ⟨h, fun z _ => by omega⟩
theorem Nb.eq {C : List Int} {x c : Int} (h : Nb C x c) (hx : x ∈ C) : c = x := by
  have := h.2 x hx
  omega
/-- one step aside: the line stays next to, or the line is a neighbour -/
theorem Nb.move {C : List Int} {x x' c : Int} (h : Nb C x c) (e : x = x' + 1 ∨ x' = x + 1) : Nb C x' c ∨ (x' ∈ C ∧ NbL C c x' ∧ absI (x' - c) = absI (x - c) + 1) := by
  by_cases hn : Nb C x' c
  · exact .inl hn
  · refine .inr ?_
    have hz : ∃ z ∈ C, (c < z ∧ z ≤ x') ∨ (x' ≤ z ∧ z < c) := by
      refine Classical.byContradiction fun h0 => hn ⟨h.1, fun z hz => ?_⟩
      refine ⟨fun a => h0 ⟨z, hz, .inl a⟩, fun a => h0 ⟨z, hz, .inr a⟩⟩
    obtain ⟨z, hz, h0⟩ := hz
    have h1 := h.2 z hz
    have : z = x' := by omega
    subst this
    refine ⟨hz, ⟨h.1, hz, by omega, fun w hw => ?_⟩, by unfold absI; omega⟩
    have h2 := h.2 w hw
    omega
section
variable {S : Pr → Prop} {C R : List Int} {s p q : Pr} {n m : Int}
theorem GP.way {N : Pr → Pr → Prop} (hN : ∀ p q, N p q → GE S C R p q) (hs : S s) (h : GP N s n p) : Way S s n p := by
  induction h with
  | zero => exact .zero hs
  | snoc h a ih =>
    obtain ⟨h1, h2⟩ := hN _ _ a
    refine ih.trans (way_seg h2 ?_)
    rcases h1 with h1 | h1
    · exact .inr h1.1
    · exact .inl h1.1
structure Lines (S : Pr → Prop) (C R : List Int) : Prop where
  c : ∀ x y c z, S (x, y) → Nb C x c → Btw x z c → S (z, y)
  r : ∀ x y r z, S (x, y) → Nb R y r → Btw y z r → S (x, z)
theorem way_gp {N : Pr → Pr → Prop} (L : Lines S C R) (hN : ∀ p q, GE S C R p q → N p q) (h1 : s.1 ∈ C) (h2 : s.2 ∈ R) (h : Way S s n p) : ∃ c r m, Nb C p.1 c ∧ Nb R p.2 r ∧ GP N s m (c, r) ∧ steps p (c, r) + m ≤ n := by
  induction h with
  | zero hs => exact ⟨s.1, s.2, 0, .self h1, .self h2, .zero, by unfold steps absI; omega⟩
  | snoc w a hq ih =>
    rename_i n p q
    obtain ⟨c, r, m, hc, hr, g, le⟩ := ih
    have hp := w.at_end
    obtain ⟨x, y⟩ := p
    obtain ⟨x', y'⟩ := q
    unfold steps at le
    dsimp only at hc hr le
    rcases a with ⟨e, a⟩ | ⟨e, a⟩
    · dsimp only at e a
      subst e
      rcases hr.move (x' := y') (by omega) with hn | ⟨k1, k2, k3⟩
      · exact ⟨c, r, m, hc, hn, g, by unfold steps absI at *; dsimp only; omega⟩
      · refine ⟨c, y', m + steps (c, r) (c, y'), hc, .self k1, g.snoc (hN _ _ ⟨.inr ⟨rfl, hc.1, k2⟩, fun z a1 a2 => ?_⟩), by unfold steps absI at *; dsimp only at *; omega⟩
        obtain ⟨zx, zy⟩ := z
        have : zx = c := by unfold Btw at a1; dsimp only at a1; omega
        subst this
        dsimp only at a2
        have hx : S (x, zy) := by
          by_cases e : zy = y'
          · subst e; exact hq
          · exact L.r x y r zy hp hr (by unfold Btw absI at *; omega)
        exact L.c x zy zx zx hx hc (by unfold Btw; omega)
    · dsimp only at e a
      subst e
      rcases hc.move (x' := x') (by omega) with hn | ⟨k1, k2, k3⟩
      · exact ⟨c, r, m, hn, hr, g, by unfold steps absI at *; dsimp only; omega⟩
      · refine ⟨x', r, m + steps (c, r) (x', r), .self k1, hr, g.snoc (hN _ _ ⟨.inl ⟨rfl, hr.1, k2⟩, fun z a1 a2 => ?_⟩), by unfold steps absI at *; dsimp only at *; omega⟩
        obtain ⟨zx, zy⟩ := z
        have : zy = r := by unfold Btw at a2; dsimp only at a2; omega
        subst this
        dsimp only at a1
        have hx : S (zx, y) := by
          by_cases e : zx = x'
          · subst e; exact hq
          · exact L.c x y c zx hp hc (by unfold Btw absI at *; omega)
        exact L.r zx y zy zy hx hr (by unfold Btw; omega)
theorem glen_len {N : Pr → Pr → Prop} {a : Option Int} (L : Lines S C R) (hN : ∀ p q, N p q ↔ GE S C R p q) (hs : S s) (h1 : s.1 ∈ C) (h2 : s.2 ∈ R) (g1 : q.1 ∈ C) (g2 : q.2 ∈ R) (h : GLen N s q a) : IsLen S s q a := by
  have lo : ∀ n, Way S s n q → ∃ m, GP N s m q ∧ m ≤ n := fun n w => by
    obtain ⟨c, r, m, hc, hr, g, le⟩ := way_gp L (fun p q => (hN p q).mpr) h1 h2 w
    have e1 := hc.eq g1
    have e2 := hr.eq g2
    subst e1 e2
    exact ⟨m, g, by have := steps_nn q (q.1, q.2); omega⟩
  refine ⟨?_⟩
  cases a with
  | none =>
    intro n w
    obtain ⟨m, g, _⟩ := lo n w
    exact h m g
  | some k =>
    refine ⟨h.1.way (fun p q => (hN p q).mp) hs, fun n w => ?_⟩
    obtain ⟨m, g, l⟩ := lo n w
    have := h.2 m g
    omega
end
/-! ### unions of boxes -/
def inBox (b : Box) (p : Pr) : Prop := b.1 ≤ p.1 ∧ p.1 < b.2.2.1 ∧ b.2.1 ≤ p.2 ∧ p.2 < b.2.2.2
def inBoxes (bs : List Box) (p : Pr) : Prop := ∃ b ∈ bs, inBox b p
theorem lines_boxes {bs : List Box} {C R : List Int} (h : ∀ b ∈ bs, b.1 ∈ C ∧ b.2.2.1 - 1 ∈ C ∧ b.2.1 ∈ R ∧ b.2.2.2 - 1 ∈ R) : Lines (inBoxes bs) C R := by
  refine ⟨fun x y c z ⟨b, hb, hi⟩ hn hz => ⟨b, hb, ?_⟩, fun x y c z ⟨b, hb, hi⟩ hn hz => ⟨b, hb, ?_⟩⟩
  · obtain ⟨k1, k2, k3, k4⟩ := h b hb
    have a1 := hn.2 _ k1
    have a2 := hn.2 _ k2
    unfold inBox Btw at *
    dsimp only at *
    omega
  · obtain ⟨k1, k2, k3, k4⟩ := h b hb
    have a1 := hn.2 _ k3
    have a2 := hn.2 _ k4
    unfold inBox Btw at *
    dsimp only at *
    omega
end BR
/-! BrY2: the heap keeps its order. -/
namespace BR
section
variable {α : Type} (lt : α → α → Bool)
structure Ord3 : Prop where
  asym : ∀ a b, lt a b = true → lt b a = false
  tr : ∀ a b c, lt b a = false → lt c b = false → lt c a = false
def HeapI (l : List α) : Prop := ∀ i a b, 0 < i → l[i]? = some a → l[(i - 1) / 2]? = some b → lt a b = false
structure UpI (l : List α) (k : Nat) : Prop where
  a : ∀ i a b, 0 < i → i ≠ k → l[i]? = some a → l[(i - 1) / 2]? = some b → lt a b = false
  b : ∀ i a b, 0 < i → 0 < k → (i - 1) / 2 = k → l[i]? = some a → l[(k - 1) / 2]? = some b → lt a b = false
structure DnI (l : List α) (k : Nat) : Prop where
  a : ∀ i a b, 0 < i → (i - 1) / 2 ≠ k → l[i]? = some a → l[(i - 1) / 2]? = some b → lt a b = false
  b : ∀ i a b, 0 < i → 0 < k → (i - 1) / 2 = k → l[i]? = some a → l[(k - 1) / 2]? = some b → lt a b = false
variable {lt}
theorem get_swap {l : List α} {k p : Nat} {x y : α} (hk : k < l.length) (hp : p < l.length) (i : Nat) : ((l.set k y).set p x)[i]? = if i = p then some x else if i = k then some y else l[i]? := by
  rw [List.getElem?_set, List.getElem?_set, List.length_set]
  by_cases h1 : p = i
  · subst h1
    simp [hp]
  · have h1' : ¬ i = p := fun z => h1 z.symm
    by_cases h2 : k = i
    · subst h2
      simp [h1, h1', hk]
    · have h2' : ¬ i = k := fun z => h2 z.symm
      simp [h1, h1', h2, h2']
theorem up_heap (o : Ord3 lt) : ∀ {n k : Nat} {l : List α}, k < n → k < l.length → UpI lt l k → HeapI lt (upGo lt n l k)
  | 0, k, l, h, _, _ => absurd h (Nat.not_lt_zero _)
  | n + 1, k, l, h, hk, u => by
    unfold upGo
    by_cases h0 : k = 0
    · rw [if_pos h0]
      intro i a b hi ha hb
      exact u.a i a b hi (by omega) ha hb
    · rw [if_neg h0]
      have hp : (k - 1) / 2 < l.length := by omega
      rw [List.getElem?_eq_getElem hk, List.getElem?_eq_getElem hp]
      have ex : l[k]? = some l[k] := List.getElem?_eq_getElem hk
      have ey : l[(k - 1) / 2]? = some l[(k - 1) / 2] := List.getElem?_eq_getElem hp
      generalize l[k] = x at *
      generalize l[(k - 1) / 2] = y at *
      dsimp only
      by_cases hlt : lt x y = true
      · rw [if_pos hlt]
        refine up_heap o (by omega) (by rw [List.length_set, List.length_set]; exact hp) ⟨fun i a b hi hn ha hb => ?_, fun i a b hi h0' hpi ha hb => ?_⟩
        · rw [get_swap hk hp] at ha hb
          rw [if_neg hn] at ha
          by_cases hik : i = k
          · subst hik
            rw [if_pos rfl] at ha hb
            obtain rfl := Option.some.inj ha
            obtain rfl := Option.some.inj hb
            exact o.asym _ _ hlt
          · rw [if_neg hik] at ha
            by_cases h1 : (i - 1) / 2 = (k - 1) / 2
            · rw [if_pos h1] at hb
              obtain rfl := Option.some.inj hb
              exact o.tr _ _ _ (o.asym _ _ hlt) (u.a i a y hi hik ha (by rw [h1]; exact ey))
            · rw [if_neg h1] at hb
              by_cases h2 : (i - 1) / 2 = k
              · rw [if_pos h2] at hb
                obtain rfl := Option.some.inj hb
                exact u.b i a y hi (by omega) h2 ha ey
              · rw [if_neg h2] at hb
                exact u.a i a b hi hik ha hb
        · rw [get_swap hk hp] at ha hb
          rw [if_neg (by omega)] at ha
          rw [if_neg (by omega), if_neg (by omega)] at hb
          have hpp : lt y b = false := u.a _ y b h0' (by omega) ey hb
          by_cases hik : i = k
          · rw [if_pos hik] at ha
            obtain rfl := Option.some.inj ha
            exact hpp
          · rw [if_neg hik] at ha
            exact o.tr _ _ _ hpp (u.a i a y hi hik ha (by rw [hpi]; exact ey))
      · rw [if_neg hlt]
        intro i a b hi ha hb
        by_cases hik : i = k
        · subst hik
          rw [ex] at ha
          rw [ey] at hb
          obtain rfl := Option.some.inj ha
          obtain rfl := Option.some.inj hb
          exact Bool.eq_false_iff.mpr hlt
        · exact u.a i a b hi hik ha hb
theorem putIn_heap (o : Ord3 lt) {l : List α} {x : α} (h : HeapI lt l) : HeapI lt (putIn lt l x) := by
  unfold putIn
  have e : ∀ i, i ≠ l.length → (l ++ [x])[i]? = l[i]? := fun i hi => by
    by_cases h1 : i < l.length
    · rw [List.getElem?_append_left h1]
    · rw [List.getElem?_eq_none (by rw [List.length_append, List.length_singleton]; omega), List.getElem?_eq_none (by omega)]
  have lt' : ∀ {i a}, (l ++ [x])[i]? = some a → i < l.length + 1 := fun {i a} ha => by
    have := (List.getElem?_eq_some_iff.mp ha).1
    rwa [List.length_append, List.length_singleton] at this
  refine up_heap o (Nat.lt_succ_self _) (by rw [List.length_append, List.length_singleton]; omega) ⟨fun i a b hi hn ha hb => ?_, fun i a b hi h0 hp ha hb => ?_⟩
  · have := lt' ha
    rw [e i hn] at ha
    rw [e _ (by omega)] at hb
    exact h i a b hi ha hb
  · have := lt' ha
    omega
theorem down_heap (o : Ord3 lt) : ∀ {n k : Nat} {l : List α}, l.length - k ≤ n → DnI lt l k → HeapI lt (downGo lt n l k)
  | 0, k, l, h, u => by
    show HeapI lt l
    intro i a b hi ha hb
    have := (List.getElem?_eq_some_iff.mp ha).1
    exact u.a i a b hi (by omega) ha hb
  | n + 1, k, l, h, u => by
    by_cases hc : 2 * k + 1 < l.length
    · have hcl := childOf_lt lt hc
      have hgt := childOf_gt lt l k
      have hcs := childOf_cases lt l k
      have hk : k < l.length := by omega
      have ex : l[k]? = some l[k] := List.getElem?_eq_getElem hk
      have ey : l[childOf lt l k]? = some l[childOf lt l k] := List.getElem?_eq_getElem hcl
      have least : ∀ y, l[childOf lt l k]? = some y → ∀ i a, 0 < i → (i - 1) / 2 = k → l[i]? = some a → lt a y = false := fun y ey i a hi hp ha => by
        have hil := (List.getElem?_eq_some_iff.mp ha).1
        have refl : ∀ z, lt z z = false := fun z => by
          cases hz : lt z z with
          | false => rfl
          | true => have := o.asym _ _ hz; rw [hz] at this; cases this
        by_cases h2 : 2 * k + 2 < l.length
        · have e1 : l[2 * k + 1]? = some l[2 * k + 1] := List.getElem?_eq_getElem hc
          have e2 : l[2 * k + 2]? = some l[2 * k + 2] := List.getElem?_eq_getElem h2
          have cy := child_yes lt e1 e2
          by_cases hl : lt l[2 * k + 2] l[2 * k + 1] = true
          · rw [if_pos hl] at cy
            rw [cy, e2] at ey
            rw [← Option.some.inj ey]
            rcases (by omega : i = 2 * k + 1 ∨ i = 2 * k + 2) with rfl | rfl
            · rw [e1] at ha
              rw [← Option.some.inj ha]
              exact o.asym _ _ hl
            · rw [e2] at ha
              rw [← Option.some.inj ha]
              exact refl _
          · rw [if_neg hl] at cy
            rw [cy, e1] at ey
            rw [← Option.some.inj ey]
            rcases (by omega : i = 2 * k + 1 ∨ i = 2 * k + 2) with rfl | rfl
            · rw [e1] at ha
              rw [← Option.some.inj ha]
              exact refl _
            · rw [e2] at ha
              rw [← Option.some.inj ha]
              exact Bool.eq_false_iff.mpr hl
        · have cn := child_no lt (l := l) (k := k) h2
          have : i = 2 * k + 1 := by omega
          subst this
          rw [cn, ha] at ey
          rw [← Option.some.inj ey]
          exact refl _
      have lst := least _ ey
      clear least
      rw [down_step lt ex ey]
      generalize l[k] = x at *
      generalize l[childOf lt l k] = y at *
      generalize childOf lt l k = c at *
      by_cases hlt : lt y x = true
      · rw [if_pos hlt]
        refine down_heap o (by rw [List.length_set, List.length_set]; omega) ⟨fun i a b hi hn ha hb => ?_, fun i a b hi h0' hpi ha hb => ?_⟩
        · rw [get_swap hk hcl] at ha hb
          rw [if_neg hn] at hb
          by_cases hic : i = c
          · subst hic
            rw [if_pos rfl] at ha
            rw [if_pos (by omega)] at hb
            obtain rfl := Option.some.inj ha
            obtain rfl := Option.some.inj hb
            exact o.asym _ _ hlt
          · rw [if_neg hic] at ha
            by_cases h1 : (i - 1) / 2 = k
            · rw [if_pos h1] at hb
              obtain rfl := Option.some.inj hb
              rw [if_neg (by omega)] at ha
              exact lst i a hi h1 ha
            · rw [if_neg h1] at hb
              by_cases hik : i = k
              · rw [if_pos hik] at ha
                obtain rfl := Option.some.inj ha
                subst hik
                exact u.b c _ b (by omega) hi (by omega) ey hb
              · rw [if_neg hik] at ha
                exact u.a i a b hi h1 ha hb
        · rw [get_swap hk hcl] at ha hb
          rw [if_neg (by omega), if_neg (by omega)] at ha
          rw [if_neg (by omega), if_pos (by omega)] at hb
          obtain rfl := Option.some.inj hb
          exact u.a i a _ hi (by omega) ha (by rw [hpi]; exact ey)
      · rw [if_neg hlt]
        intro i a b hi ha hb
        by_cases hik : (i - 1) / 2 = k
        · rw [hik, ex] at hb
          obtain rfl := Option.some.inj hb
          exact o.tr _ _ _ (Bool.eq_false_iff.mpr hlt) (lst i a hi hik ha)
        · exact u.a i a b hi hik ha hb
    · rw [down_end lt hc]
      intro i a b hi ha hb
      have := (List.getElem?_eq_some_iff.mp ha).1
      exact u.a i a b hi (by omega) ha hb
theorem heap_drop {l : List α} (h : HeapI lt l) : HeapI lt l.dropLast := fun i a b hi ha hb => by
  rw [List.getElem?_dropLast] at ha hb
  split at ha
  · split at hb
    · exact h i a b hi ha hb
    · cases hb
  · cases ha
theorem takeIn_heap (o : Ord3 lt) {l : List α} (h : HeapI lt l) : HeapI lt (takeIn lt l) := by
  unfold takeIn
  split
  · rename_i x r z h1 h2
    have hd := heap_drop h
    rw [h1] at hd
    have hlen : l.length = r.length + 1 + 1 := by
      have := congrArg List.length h1
      rw [List.length_dropLast, List.length_cons] at this
      omega
    refine down_heap o (by rw [List.length_cons]; omega) ⟨fun i a b hi hn ha hb => ?_, fun i a b hi h0 => absurd h0 (Nat.lt_irrefl _)⟩
    cases i with
    | zero => exact absurd hi (Nat.lt_irrefl _)
    | succ i =>
      cases hj : (i + 1 - 1) / 2 with
      | zero => exact absurd hj hn
      | succ j =>
        rw [hj] at hb
        exact hd (i + 1) a b hi ha (by rw [hj]; exact hb)
  · intro i a b hi ha
    simp at ha
theorem heap_min (o : Ord3 lt) {l : List α} {x : α} (h : HeapI lt l) (h0 : l[0]? = some x) : ∀ (i : Nat) {a : α}, l[i]? = some a → lt a x = false
  | 0, a, ha => by
    rw [h0] at ha
    obtain rfl := Option.some.inj ha
    cases hz : lt x x with
    | false => rfl
    | true => have := o.asym _ _ hz; rw [hz] at this; cases this
  | i + 1, a, ha => by
    have hl := (List.getElem?_eq_some_iff.mp ha).1
    have hp : (i + 1 - 1) / 2 < l.length := by omega
    have e := List.getElem?_eq_getElem hp
    exact o.tr _ _ _ (heap_min o h h0 ((i + 1 - 1) / 2) e) (h (i + 1) a _ (by omega) ha e)
  termination_by i => i
  decreasing_by omega
theorem heap_head (o : Ord3 lt) {x : α} {r : List α} (h : HeapI lt (x :: r)) {a : α} (ha : a ∈ x :: r) : lt a x = false := by
  obtain ⟨i, hi⟩ := List.mem_iff_getElem?.mp ha
  exact heap_min o h rfl i hi
end
theorem ltPr_iff {p q : Pr} : ltPr' p q = true ↔ p.1 < q.1 ∨ (p.1 = q.1 ∧ p.2 < q.2) := by simp [ltPr']
theorem ltE_iff {a b : E3} : ltE a b = true ↔ a.1 < b.1 ∨ (a.1 = b.1 ∧ (ltPr' a.2.1 b.2.1 = true ∨ (a.2.1 = b.2.1 ∧ ltPr' a.2.2 b.2.2 = true))) := by simp [ltE]
theorem ordE : Ord3 ltE := ⟨fun a b h => by
  rw [Bool.eq_false_iff]
  intro h'
  rw [ltE_iff, ltPr_iff, ltPr_iff, Prod.ext_iff] at h h'
  omega, fun a b c h h' => by
  rw [Bool.eq_false_iff] at *
  intro h3
  rw [ne_eq, ltE_iff, ltPr_iff, ltPr_iff, Prod.ext_iff] at h h'
  rw [ltE_iff, ltPr_iff, ltPr_iff, Prod.ext_iff] at h3
  omega⟩
end BR
/-! BrY3: both searches find the least lengths. -/
namespace BR
section
variable {N : Pr → Pr → Prop} {s : Pr}
theorem frontier {D : Pr → Option Int} {l : Int} (hs : D s = none → l ≤ 0) (ex : ∀ k d, D k = some d → ∀ m, GP N s m k → d ≤ m) (fr : ∀ k d t, D k = some d → N k t → D t = none → l ≤ d + steps k t) {m : Int} {q : Pr} (h : GP N s m q) (hq : D q = none) : l ≤ m := by
  induction h with
  | zero => exact hs hq
  | snoc h a ih =>
    rename_i n p q
    cases hp : D p with
    | none =>
      have := ih hp
      have := steps_nn p q
      omega
    | some d =>
      have := ex _ _ hp _ h
      have := fr _ _ _ hp a hq
      omega
theorem frontier_none {D : Pr → Option Int} (hs : D s ≠ none) (fr : ∀ k d t, D k = some d → N k t → D t ≠ none) {m : Int} {q : Pr} (h : GP N s m q) : D q ≠ none := by
  induction h with
  | zero => exact hs
  | snoc h a ih =>
    rename_i n p q
    cases hp : D p with
    | none => exact (ih hp).elim
    | some d => exact fr _ _ _ hp a
end
/-! ### by a heap -/
theorem mem_pushAll {len : Int} {here : Pr} {dn : Dn} {e : E3} : ∀ {ts : List Pr} {h : List E3}, e ∈ pushAll len here dn ts h ↔ e ∈ h ∨ ∃ t ∈ ts, inD dn t = false ∧ e = (len + steps here t, t, here)
  | [], h => by simp [pushAll]
  | t :: ts, h => by
    have ih := mem_pushAll (len := len) (here := here) (dn := dn) (e := e) (ts := ts) (h := if inD dn t = true then h else putIn ltE h (len + steps here t, t, here))
    unfold pushAll at ih ⊢
    rw [List.foldl_cons, ih]
    by_cases hd : inD dn t = true
    · rw [if_pos hd]
      constructor
      · rintro (h1 | ⟨u, h1, h2⟩)
        · exact .inl h1
        · exact .inr ⟨u, List.mem_cons_of_mem _ h1, h2⟩
      · rintro (h1 | ⟨u, h1, h2, h3⟩)
        · exact .inl h1
        · rcases List.mem_cons.mp h1 with rfl | h1
          · rw [hd] at h2; cases h2
          · exact .inr ⟨u, h1, h2, h3⟩
    · rw [if_neg hd, (putIn_perm ltE h _).mem_iff, List.mem_cons]
      constructor
      · rintro ((h1 | h1) | ⟨u, h1, h2⟩)
        · exact .inr ⟨t, List.mem_cons_self, Bool.eq_false_iff.mpr hd, h1⟩
        · exact .inl h1
        · exact .inr ⟨u, List.mem_cons_of_mem _ h1, h2⟩
      · rintro (h1 | ⟨u, h1, h2, h3⟩)
        · exact .inl (.inr h1)
        · rcases List.mem_cons.mp h1 with rfl | h1
          · exact .inl (.inl h3)
          · exact .inr ⟨u, h1, h2, h3⟩
theorem pushAll_heap {len : Int} {here : Pr} {dn : Dn} : ∀ {ts : List Pr} {h : List E3}, HeapI ltE h → HeapI ltE (pushAll len here dn ts h)
  | [], h, hh => hh
  | t :: ts, h, hh => by
    have ih := pushAll_heap (len := len) (here := here) (dn := dn) (ts := ts) (h := if inD dn t = true then h else putIn ltE h (len + steps here t, t, here)) (by
      split
      · exact hh
      · exact putIn_heap ordE hh)
    unfold pushAll at ih ⊢
    rw [List.foldl_cons]
    exact ih
abbrev NbT (es : Tab) (p q : Pr) : Prop := q ∈ nbrs es p
structure SI (es : Tab) (s : Pr) (h : List E3) (dn : Dn) (D : Pr → Option Int) : Prop where
  hp : HeapI ltE h
  dom : ∀ k, (D k).isSome = inD dn k
  ex : ∀ k d, D k = some d → GLen (NbT es) s k (some d)
  st : D s ≠ none
  en : ∀ e ∈ h, GP (NbT es) s e.1 e.2.1
  fr : ∀ k d t, D k = some d → t ∈ nbrs es k → D t = none → ∃ e ∈ h, e.2.1 = t ∧ e.1 ≤ d + steps k t
theorem search_len {es : Tab} {s goal : Pr} : ∀ (n : Nat) {h : List E3} {dn : Dn} {D : Pr → Option Int}, SI es s h dn D → inD dn goal = false → h.length + budget es dn ≤ n → GLen (NbT es) s goal ((search es goal n h dn).map (·.1)) := by
  have fin : ∀ {h : List E3} {dn : Dn} {D : Pr → Option Int}, SI es s h dn D → inD dn goal = false → h = [] → GLen (NbT es) s goal none := fun {h dn D} I hg h0 m hm => by
    subst h0
    refine frontier_none I.st (fun k d t h1 h2 h3 => ?_) hm (by
      have := I.dom goal
      rw [hg] at this
      exact Option.not_isSome_iff_eq_none.mp (by rw [this]; exact Bool.false_ne_true))
    obtain ⟨e, he, _⟩ := I.fr k d t h1 h2 h3
    cases he
  intro n
  induction n with
  | zero =>
    intro h dn D I hg hn
    exact fin I hg (List.length_eq_zero_iff.mp (by omega))
  | succ n ih =>
    intro h dn D I hg hn
    cases h with
    | nil => exact fin I hg rfl
    | cons e r =>
      rw [List.length_cons] at hn
      have htl := takeIn_len e r
      unfold search
      by_cases hd : inD dn e.2.1 = true
      · rw [if_pos hd]
        refine ih ⟨takeIn_heap ordE I.hp, I.dom, I.ex, I.st, fun e' he' => I.en e' (List.mem_cons_of_mem _ (mem_takeIn ltE he')), fun k d t h1 h2 h3 => ?_⟩ hg (by omega)
        obtain ⟨e', he, h4, h5⟩ := I.fr k d t h1 h2 h3
        refine ⟨e', (takeIn_perm ltE e r).mem_iff.mpr ?_, h4, h5⟩
        rcases List.mem_cons.mp he with rfl | he
        · have := I.dom e'.2.1
          rw [hd, h4, h3] at this
          cases this
        · exact he
      · rw [if_neg hd]
        have hD : D e.2.1 = none := Option.not_isSome_iff_eq_none.mp (by rw [I.dom]; exact hd)
        have ex : GLen (NbT es) s e.2.1 (some e.1) := ⟨I.en e List.mem_cons_self, fun m hm => frontier (fun z => (I.st z).elim) (fun k d h1 => (I.ex k d h1).2) (fun k d t h1 h2 h3 => by
          obtain ⟨e', he, h4, h5⟩ := I.fr k d t h1 h2 h3
          have := heap_head ordE I.hp he
          have h6 : ¬ e'.1 < e.1 := fun z => by rw [ltE_iff.mpr (.inl z)] at this; cases this
          omega) hm hD⟩
        by_cases hg' : e.2.1 = goal
        · rw [if_pos hg', ← hg']
          exact ex
        · rw [if_neg hg']
          have hfd := Bool.eq_false_iff.mpr hd
          have hb := budget_snoc (es := es) (b := some e.2.2) hfd
          have hpl := pushAll_len e.1 e.2.1 (dn ++ [(e.2.1, some e.2.2)]) (nbrs es e.2.1) (takeIn ltE (e :: r))
          refine ih (D := fun k => if k = e.2.1 then some e.1 else D k) ⟨pushAll_heap (takeIn_heap ordE I.hp), fun k => ?_, fun k d h1 => ?_, ?_, fun e' he' => ?_, fun k d t h1 h2 h3 => ?_⟩ ?_ (by omega)
          · rw [inD_snoc]
            by_cases hk : k = e.2.1
            · subst hk; simp
            · rw [if_neg hk, I.dom, decide_eq_false (fun z => hk z.symm), Bool.or_false]
          · try dsimp only at h1
            by_cases hk : k = e.2.1
            · subst hk
              rw [if_pos rfl] at h1
              obtain rfl := Option.some.inj h1
              exact ex
            · rw [if_neg hk] at h1
              exact I.ex k d h1
          · try dsimp only
            split
            · exact fun z => nomatch z
            · exact I.st
          · rcases mem_pushAll.mp he' with h1 | ⟨t, h1, h2, rfl⟩
            · exact I.en e' (List.mem_cons_of_mem _ (mem_takeIn ltE h1))
            · exact (I.en e List.mem_cons_self).snoc h1
          · try dsimp only at h1 h3
            by_cases ht : t = e.2.1
            · rw [if_pos ht] at h3; cases h3
            · rw [if_neg ht] at h3
              by_cases hk : k = e.2.1
              · subst hk
                rw [if_pos rfl] at h1
                obtain rfl := Option.some.inj h1
                refine ⟨_, mem_pushAll.mpr (.inr ⟨t, h2, ?_, rfl⟩), rfl, Int.le_refl _⟩
                rw [inD_snoc, ← I.dom, h3, decide_eq_false (fun z => ht z.symm)]
                rfl
              · rw [if_neg hk] at h1
                obtain ⟨e', he, h4, h5⟩ := I.fr k d t h1 h2 h3
                refine ⟨e', mem_pushAll.mpr (.inl ((takeIn_perm ltE e r).mem_iff.mpr ?_)), h4, h5⟩
                rcases List.mem_cons.mp he with rfl | he
                · exact (ht h4.symm).elim
                · exact he
          · rw [inD_snoc, hg, decide_eq_false hg']
            rfl
theorem gp_nn {N : Pr → Pr → Prop} {s p : Pr} {m : Int} (h : GP N s m p) : 0 ≤ m := by
  induction h with
  | zero => exact Int.le_refl _
  | snoc h a ih =>
    rename_i p q
    have := steps_nn p q
    omega
theorem gp_self {N : Pr → Pr → Prop} {s : Pr} : GLen N s s (some 0) := ⟨.zero, fun m h => gp_nn h⟩
theorem found_len (es : Tab) (s goal : Pr) : GLen (NbT es) s goal ((foundOf es s goal).map (·.1)) := by
  unfold foundOf
  dsimp only
  by_cases h : s = goal
  · rw [if_pos h, ← h]
    exact gp_self
  · rw [if_neg h]
    refine search_len _ (D := fun k => if k = s then some 0 else none) ⟨pushAll_heap fun i a b hi ha => by simp at ha, fun k => ?_, fun k d h1 => ?_, ?_, fun e he => ?_, fun k d t h1 h2 h3 => ?_⟩ ?_ (Nat.le_refl _)
    · show _ = inD ([] ++ [(s, none)]) k
      rw [inD_snoc]
      by_cases hk : k = s
      · subst hk; simp
      · rw [if_neg hk, decide_eq_false (fun z => hk z.symm)]
        rfl
    · try dsimp only at h1
      by_cases hk : k = s
      · subst hk
        rw [if_pos rfl] at h1
        obtain rfl := Option.some.inj h1
        exact gp_self
      · rw [if_neg hk] at h1; cases h1
    · try dsimp only
      rw [if_pos rfl]
      exact fun z => nomatch z
    · rcases mem_pushAll.mp he with h1 | ⟨t, h1, h2, rfl⟩
      · cases h1
      · exact GP.zero.snoc h1
    · try dsimp only at h1 h3
      by_cases ht : t = s
      · rw [if_pos ht] at h3; cases h3
      · by_cases hk : k = s
        · subst hk
          rw [if_pos rfl] at h1
          obtain rfl := Option.some.inj h1
          refine ⟨_, mem_pushAll.mpr (.inr ⟨t, h2, ?_, rfl⟩), rfl, Int.le_refl _⟩
          show inD ([] ++ [(k, none)]) t = false
          rw [inD_snoc, decide_eq_false (fun z => ht z.symm)]
          rfl
        · rw [if_neg hk] at h1; cases h1
    · show inD ([] ++ [(s, none)]) goal = false
      rw [inD_snoc, decide_eq_false h]
      rfl
/-! ### the law's -/
theorem ltI2_iff {a b : Int × Pr} : ltI2 a b = true ↔ a.1 < b.1 ∨ (a.1 = b.1 ∧ ltPr' a.2 b.2 = true) := by simp [ltI2]
theorem minE_spec : ∀ {r : List (Int × Pr)} {m : Int × Pr}, minE m r ∈ m :: r ∧ ∀ e ∈ m :: r, (minE m r).1 ≤ e.1
  | [], m => ⟨List.mem_cons_self, fun e he => by
    rcases List.mem_cons.mp he with rfl | he
    · exact Int.le_refl _
    · cases he⟩
  | e :: r, m => by
    unfold minE
    obtain ⟨h1, h2⟩ := minE_spec (r := r) (m := if ltI2 e m = true then e else m)
    have h3 : (if ltI2 e m = true then e else m).1 ≤ e.1 ∧ (if ltI2 e m = true then e else m).1 ≤ m.1 := by
      split
      · rename_i h
        rw [ltI2_iff] at h
        omega
      · rename_i h
        rw [ltI2_iff] at h
        omega
    refine ⟨?_, fun x hx => ?_⟩
    · rcases List.mem_cons.mp h1 with h | h
      · rw [h]
        split
        · simp
        · simp
      · exact List.mem_cons_of_mem _ (List.mem_cons_of_mem _ h)
    · have := h2 _ List.mem_cons_self
      rcases List.mem_cons.mp hx with rfl | hx
      · omega
      · rcases List.mem_cons.mp hx with rfl | hx
        · omega
        · exact h2 x (List.mem_cons_of_mem _ hx)
theorem gt_mem {β : Type} {es : List (Pr × β)} {p : Pr} {b : β} (h : gt es p = some b) : (p, b) ∈ es := by
  induction es with
  | nil => cases h
  | cons kv r ih =>
    unfold gt at h
    split at h
    · rename_i e
      obtain rfl := Option.some.inj h
      subst e
      exact List.mem_cons_self
    · exact List.mem_cons_of_mem _ (ih h)
theorem mem_gt {β : Type} {es : List (Pr × β)} {p : Pr} {b : β} (nd : (es.map (·.1)).Nodup) (h : (p, b) ∈ es) : gt es p = some b := by
  induction es with
  | nil => cases h
  | cons kv r ih =>
    rw [List.map_cons, List.nodup_cons] at nd
    unfold gt
    rcases List.mem_cons.mp h with e | h
    · subst e
      rw [if_pos rfl]
    · rw [if_neg (fun z => nd.1 (List.mem_map.mpr ⟨_, h, z.symm⟩))]
      exact ih nd.2 h
theorem pt_keys {β : Type} {es : List (Pr × β)} {p : Pr} {b : β} : (pt es p b).map (·.1) = if p ∈ es.map (·.1) then es.map (·.1) else es.map (·.1) ++ [p] := by
  unfold pt
  have e : (es.any fun kv => decide (kv.1 = p)) = true ↔ p ∈ es.map (·.1) := inTab_iff
  by_cases h : p ∈ es.map (·.1)
  · rw [if_pos (e.mpr h), if_pos h, List.map_map]
    refine List.map_congr_left fun kv _ => ?_
    show (if kv.1 = p then (kv.1, b) else kv).1 = kv.1
    split <;> rfl
  · rw [if_neg (fun z => h (e.mp z)), if_neg h, List.map_append]
    rfl
theorem pt_nd {β : Type} {es : List (Pr × β)} {p : Pr} {b : β} (nd : (es.map (·.1)).Nodup) : ((pt es p b).map (·.1)).Nodup := by
  rw [pt_keys]
  split
  · exact nd
  · rename_i h
    refine List.nodup_append.mpr ⟨nd, by simp, fun a ha c hc e => ?_⟩
    rw [List.mem_singleton] at hc
    subst hc
    subst e
    exact h ha
theorem gt_some_iff {β : Type} {es : List (Pr × β)} {p : Pr} : (gt es p).isSome = true ↔ p ∈ es.map (·.1) := by
  rw [← inTab_iff]
  cases h : gt es p with
  | none =>
    have := gt_none.mp h
    unfold inTab
    rw [this]
    simp
  | some b =>
    have : ¬ (es.any fun kv => decide (kv.1 = p)) = false := fun z => by rw [gt_none.mpr z] at h; cases h
    have h2 := (by cases hz : (es.any fun kv => decide (kv.1 = p)) with | true => rfl | false => exact absurd hz this : (es.any fun kv => decide (kv.1 = p)) = true)
    unfold inTab
    rw [h2]
    rfl
/-- the law's state -/
structure LI (es : Tab) (s : Pr) (least : Lst) (done : Own) : Prop where
  ndl : (least.map (·.1)).Nodup
  ndd : (done.map (·.1)).Nodup
  kl : ∀ k ∈ least.map (·.1), k ∈ es.map (·.1)
  kd : ∀ k ∈ done.map (·.1), k ∈ least.map (·.1)
  gp : ∀ k d, gt least k = some d → GP (NbT es) s d k
  ex : ∀ k d, (gt done k).isSome = true → gt least k = some d → ∀ m, GP (NbT es) s m k → d ≤ m
  fr : ∀ k d t, (gt done k).isSome = true → gt least k = some d → t ∈ nbrs es k → ∃ e, gt least t = some e ∧ e ≤ d + steps k t
  st : ∃ d, gt least s = some d ∧ d ≤ 0
theorem relax_fold {far : Int} {here : Pr} : ∀ (ts : List Pr) (least : Lst), (least.map (·.1)).Nodup →
    (((ts.foldl (llRelax far here) least).map (·.1)).Nodup ∧ (∀ k, k ∈ (ts.foldl (llRelax far here) least).map (·.1) ↔ k ∈ least.map (·.1) ∨ k ∈ ts)
    ∧ (∀ k d, gt least k = some d → ∃ e, gt (ts.foldl (llRelax far here) least) k = some e ∧ e ≤ d)
    ∧ (∀ k e, gt (ts.foldl (llRelax far here) least) k = some e → gt least k = some e ∨ (k ∈ ts ∧ e = far + steps here k))
    ∧ ∀ t ∈ ts, ∃ e, gt (ts.foldl (llRelax far here) least) t = some e ∧ e ≤ far + steps here t)
  | [], least, nd => ⟨nd, fun k => by simp, fun k d h => ⟨d, h, Int.le_refl _⟩, fun k e h => .inl h, fun t h => by cases h⟩
  | t :: ts, least, nd => by
    rw [List.foldl_cons]
    have es : far + absI (t.1 - here.1) + absI (t.2 - here.2) = far + steps here t := by unfold steps absI; omega
    obtain ⟨v, hv, hle, hor⟩ : ∃ v, llRelax far here least t = pt least t v ∧ v ≤ far + steps here t ∧ ((gt least t = none ∧ v = far + steps here t) ∨ ∃ d, gt least t = some d ∧ v ≤ d ∧ (v = d ∨ v = far + steps here t)) := by
      refine ⟨_, rfl, ?_, ?_⟩
      · rw [es]; unfold mn2; split <;> omega
      · rw [es]
        cases h : gt least t with
        | none => exact .inl ⟨rfl, by simp [mn2]⟩
        | some d => exact .inr ⟨d, rfl, by simp only [Option.getD_some]; unfold mn2; omega, by simp only [Option.getD_some]; unfold mn2; omega⟩
    rw [hv]
    obtain ⟨i1, i2, i3, i4, i5⟩ := relax_fold (far := far) (here := here) ts (pt least t v) (pt_nd nd)
    refine ⟨i1, fun k => ?_, fun k d h => ?_, fun k e h => ?_, fun u hu => ?_⟩
    · rw [i2, pt_keys, List.mem_cons]
      split
      · rename_i hm
        constructor
        · rintro (h | h)
          · exact .inl h
          · exact .inr (.inr h)
        · rintro (h | rfl | h)
          · exact .inl h
          · exact .inl hm
          · exact .inr h
      · rw [List.mem_append, List.mem_singleton]
        constructor
        · rintro ((h | h) | h)
          · exact .inl h
          · exact .inr (.inl h)
          · exact .inr (.inr h)
        · rintro (h | rfl | h)
          · exact .inl (.inl h)
          · exact .inl (.inr rfl)
          · exact .inr h
    · by_cases hk : k = t
      · subst hk
        obtain ⟨e, h1, h2⟩ := i3 k v (by rw [gt_pt, if_pos rfl])
        rcases hor with ⟨h3, _⟩ | ⟨d', h3, h4, _⟩
        · rw [h] at h3; cases h3
        · rw [h] at h3
          obtain rfl := Option.some.inj h3
          exact ⟨e, h1, by omega⟩
      · exact i3 k d (by rw [gt_pt, if_neg hk]; exact h)
    · rcases i4 k e h with h1 | ⟨h1, h2⟩
      · rw [gt_pt] at h1
        by_cases hk : k = t
        · subst hk
          rw [if_pos rfl] at h1
          obtain rfl := Option.some.inj h1
          rcases hor with ⟨_, h3⟩ | ⟨d, h3, _, h4 | h4⟩
          · exact .inr ⟨List.mem_cons_self, h3⟩
          · exact .inl (h3.trans (by rw [h4]))
          · exact .inr ⟨List.mem_cons_self, h4⟩
        · rw [if_neg hk] at h1
          exact .inl h1
      · exact .inr ⟨List.mem_cons_of_mem _ h1, h2⟩
    · rcases List.mem_cons.mp hu with rfl | hu
      · obtain ⟨e, h1, h2⟩ := i3 u v (by rw [gt_pt, if_pos rfl])
        exact ⟨e, h1, by omega⟩
      · exact i5 u hu
theorem mem_left {least : Lst} {done : Own} {e : Int × Pr} (nd : (least.map (·.1)).Nodup) : e ∈ llLeft least done ↔ gt least e.2 = some e.1 ∧ gt done e.2 = none := by
  unfold llLeft
  rw [List.mem_map]
  constructor
  · rintro ⟨kv, h, rfl⟩
    obtain ⟨h1, h2⟩ := List.mem_filter.mp h
    refine ⟨mem_gt nd h1, ?_⟩
    dsimp only
    cases hd : gt done kv.1 with
    | none => rfl
    | some b => rw [hd] at h2; cases h2
  · rintro ⟨h1, h2⟩
    refine ⟨(e.2, e.1), List.mem_filter.mpr ⟨gt_mem h1, ?_⟩, rfl⟩
    dsimp only
    rw [h2]
    rfl
/-- what a turn does -/
def llNext (es : Tab) (least : Lst) (done : Own) (m : Int × Pr) : Lst × Own := ((nbrs es m.2).foldl (llRelax m.1 m.2) least, pt done m.2 true)
theorem LI.next {es : Tab} {s : Pr} {least : Lst} {done : Own} (cl : Closed es) (I : LI es s least done) {e : Int × Pr} {r : List (Int × Pr)} (h : llLeft least done = e :: r) :
    LI es s (llNext es least done (minE e r)).1 (llNext es least done (minE e r)).2 ∧ (llNext es least done (minE e r)).2.length = done.length + 1 := by
  obtain ⟨hm, hl⟩ := minE_spec (r := r) (m := e)
  rw [← h] at hm
  obtain ⟨h1, h2⟩ := (mem_left I.ndl).mp hm
  clear hm
  generalize minE e r = m at *
  obtain ⟨far, here⟩ := m
  dsimp only at h1 h2 hl
  have ex : ∀ n, GP (NbT es) s n here → far ≤ n := fun n hn => frontier (D := fun k => if (gt done k).isSome = true then gt least k else none) (fun z => by
      obtain ⟨d, k1, k2⟩ := I.st
      try dsimp only at z
      split at z
      · rw [k1] at z; cases z
      · rename_i hd
        have := hl (d, s) (by rw [← h]; exact (mem_left I.ndl).mpr ⟨k1, Option.not_isSome_iff_eq_none.mp hd⟩)
        dsimp only at this
        omega) (fun k d z => by
      try dsimp only at z
      split at z
      · rename_i hd
        exact I.ex k d hd z
      · cases z) (fun k d t z1 z2 z3 => by
      try dsimp only at z1 z3
      split at z1
      · rename_i hd
        obtain ⟨d', k1, k2⟩ := I.fr k d t hd z1 z2
        split at z3
        · rw [k1] at z3; cases z3
        · rename_i hdt
          have := hl (d', t) (by rw [← h]; exact (mem_left I.ndl).mpr ⟨k1, Option.not_isSome_iff_eq_none.mp hdt⟩)
          dsimp only at this
          omega
      · cases z1) hn (by rw [h2]; exact if_neg Bool.false_ne_true)
  obtain ⟨r1, r2, r3, r4, r5⟩ := relax_fold (far := far) (here := here) (nbrs es here) least I.ndl
  have keyh : here ∈ least.map (·.1) := gt_some_iff.mp (by rw [h1]; rfl)
  have dne : ∀ k, (gt (pt done here true) k).isSome = true → k = here ∨ (gt done k).isSome = true := fun k hk => by
    rw [gt_pt] at hk
    split at hk
    · rename_i e; exact .inl e
    · exact .inr hk
  unfold llNext
  dsimp only
  generalize (nbrs es here).foldl (llRelax far here) least = least' at *
  have gp : ∀ k d, gt least' k = some d → GP (NbT es) s d k := fun k d hk => by
    rcases r4 k d hk with h | ⟨h, rfl⟩
    · exact I.gp k d h
    · exact (I.gp here far h1).snoc h
  have same : ∀ k d, (gt done k).isSome = true ∨ k = here → gt least k = some d → gt least' k = some d := fun k d hd hk => by
    obtain ⟨e, k1, k2⟩ := r3 k d hk
    have k3 : d ≤ e := by
      rcases hd with hd | rfl
      · exact I.ex k d hd hk e (gp k e k1)
      · rw [h1] at hk
        obtain rfl := Option.some.inj hk
        exact ex e (gp k e k1)
    have : e = d := by omega
    rw [← this]; exact k1
  have old : ∀ k d, (gt done k).isSome = true ∨ k = here → gt least' k = some d → gt least k = some d := fun k d hd hk => by
    have hl : ∃ d', gt least k = some d' := by
      rcases hd with hd | rfl
      · have := I.kd k (gt_some_iff.mp hd)
        have := gt_some_iff.mpr this
        exact Option.isSome_iff_exists.mp this
      · exact ⟨_, h1⟩
    obtain ⟨d', hd'⟩ := hl
    rw [same k d' hd hd'] at hk
    rw [hd', Option.some.inj hk]
  refine ⟨⟨r1, pt_nd I.ndd, fun k hk => ?_, fun k hk => ?_, gp, fun k d hd hk m hm => ?_, fun k d t hd hk ht => ?_, ?_⟩, ?_⟩
  · rcases (r2 k).mp hk with h | h
    · exact I.kl k h
    · obtain ⟨kv, k1, k2⟩ := nbrs_mem h
      exact cl kv k1 k k2
  · rw [pt_keys] at hk
    rw [r2]
    refine .inl ?_
    split at hk
    · exact I.kd k hk
    · rcases List.mem_append.mp hk with hk | hk
      · exact I.kd k hk
      · rw [List.mem_singleton.mp hk]; exact keyh
  · rcases dne k hd with rfl | hd
    · have := old k d (.inr rfl) hk
      rw [h1] at this
      obtain rfl := Option.some.inj this
      exact ex m hm
    · exact I.ex k d hd (old k d (.inl hd) hk) m hm
  · rcases dne k hd with rfl | hd
    · have := old k d (.inr rfl) hk
      rw [h1] at this
      obtain rfl := Option.some.inj this
      exact r5 t ht
    · obtain ⟨e, k1, k2⟩ := I.fr k d t hd (old k d (.inl hd) hk) ht
      obtain ⟨e', k3, k4⟩ := r3 t e k1
      exact ⟨e', k3, by omega⟩
  · obtain ⟨d, k1, k2⟩ := I.st
    obtain ⟨e', k3, k4⟩ := r3 s d k1
    exact ⟨e', k3, by omega⟩
  · have := congrArg List.length (pt_keys (es := done) (p := here) (b := true))
    rw [if_neg (fun z => by rw [← gt_some_iff, h2] at z; cases z), List.length_append, List.length_map, List.length_map] at this
    exact this
theorem nd_len {l B : List Pr} (nd : l.Nodup) (h : ∀ k ∈ l, k ∈ B) : l.length ≤ B.length := by
  induction l generalizing B with
  | nil => exact Nat.zero_le _
  | cons a l ih =>
    obtain ⟨h1, h2⟩ := List.nodup_cons.mp nd
    have ha : a ∈ B := h a List.mem_cons_self
    have := ih (B := B.erase a) h2 fun k hk => (List.mem_erase_of_ne (fun e => h1 (by subst e; exact hk))).mpr (h k (List.mem_cons_of_mem _ hk))
    rw [List.length_erase_of_mem ha] at this
    have hp : 0 < B.length := List.length_pos_of_mem ha
    rw [List.length_cons]
    omega
theorem LI.len {es : Tab} {s : Pr} {least : Lst} {done : Own} (I : LI es s least done) : least.length ≤ es.length ∧ done.length ≤ least.length := by
  have h1 := nd_len I.ndl I.kl
  have h2 := nd_len I.ndd I.kd
  rw [List.length_map, List.length_map] at h1 h2
  exact ⟨h1, h2⟩
theorem LI.start {es : Tab} {s : Pr} (h : s ∈ es.map (·.1)) : LI es s [(s, 0)] [] := by
  have g : ∀ k d, gt [(s, (0 : Int))] k = some d → k = s ∧ d = 0 := fun k d hk => by
    unfold gt at hk
    split at hk
    · rename_i e
      exact ⟨e.symm, (Option.some.inj hk).symm⟩
    · cases hk
  exact ⟨by simp, by simp, fun k hk => by
    have : k = s := by simpa using hk
    rw [this]; exact h, fun k hk => (by cases hk), fun k d hk => by
    obtain ⟨rfl, rfl⟩ := g k d hk
    exact .zero, fun k d hd => (by cases hd), fun k d t hd => (by cases hd), ⟨0, by simp [gt], Int.le_refl _⟩⟩
theorem LI.stop {es : Tab} {s goal : Pr} {least : Lst} {done : Own} (I : LI es s least done) (h : llLeft least done = []) (hg : (gt done goal).isSome = false) : GLen (NbT es) s goal none := fun m hm => by
  have hall : ∀ k, (gt least k).isSome = true → (gt done k).isSome = true := fun k hk => by
    obtain ⟨d, hd⟩ := Option.isSome_iff_exists.mp hk
    cases hz : gt done k with
    | some b => rfl
    | none =>
      have : (d, k) ∈ llLeft least done := (mem_left I.ndl).mpr ⟨hd, hz⟩
      rw [h] at this
      cases this
  have := frontier_none (D := fun k => if (gt done k).isSome = true then gt least k else none) (by
    obtain ⟨d, k1, k2⟩ := I.st
    try dsimp only
    rw [if_pos (hall s (by rw [k1]; rfl)), k1]
    exact fun z => nomatch z) (fun k d t z1 z2 => by
    try dsimp only at z1 ⊢
    split at z1
    · rename_i hd
      obtain ⟨e, k1, k2⟩ := I.fr k d t hd z1 z2
      rw [if_pos (hall t (by rw [k1]; rfl)), k1]
      exact fun z => nomatch z
    · cases z1) hm
  try dsimp only at this
  rw [hg] at this
  exact this rfl
theorem LI.goal {es : Tab} {s goal : Pr} {least : Lst} {done : Own} (I : LI es s least done) (hg : (gt done goal).isSome = true) : ∃ d, gt least goal = some d ∧ GLen (NbT es) s goal (some d) := by
  obtain ⟨d, hd⟩ := Option.isSome_iff_exists.mp (gt_some_iff.mpr (I.kd goal (gt_some_iff.mp hg)))
  exact ⟨d, hd, I.gp _ _ hd, I.ex _ _ hg hd⟩
theorem llGo_len {es : Tab} {s goal : Pr} (cl : Closed es) : ∀ (n : Nat) {least : Lst} {done : Own}, LI es s least done → es.length + 1 ≤ n + done.length → GLen (NbT es) s goal (llGo es goal n least done)
  | 0, least, done, I, hn => by
    have := I.len
    omega
  | n + 1, least, done, I, hn => by
    unfold llGo
    by_cases hg : (gt done goal).isSome = true
    · rw [if_pos hg]
      obtain ⟨d, h1, h2⟩ := I.goal hg
      rw [h1]
      exact h2
    · rw [if_neg hg]
      cases hl : llLeft least done with
      | nil => exact I.stop hl (Bool.eq_false_iff.mpr hg)
      | cons e r =>
        obtain ⟨h1, h2⟩ := I.next cl hl
        exact llGo_len cl n h1 (by unfold llNext at h2; dsimp only at h2; rw [h2]; omega)
end BR
/-! BrY4: forms by their squares. -/
namespace BR
/-! ### spans -/
theorem isCov_iff {ss : List Pr} {n : Int} : isCov ss n = true ↔ ∃ s ∈ ss, s.1 ≤ n ∧ n < s.2 := by
  unfold isCov
  rw [List.any_eq_true]
  constructor
  · rintro ⟨s, h1, h2⟩; exact ⟨s, h1, of_decide_eq_true h2⟩
  · rintro ⟨s, h1, h2⟩; exact ⟨s, h1, decide_eq_true h2⟩
theorem isCov_app (a b : List Pr) (n : Int) : isCov (a ++ b) n = (isCov a n || isCov b n) := by unfold isCov; rw [List.any_append]
theorem isCov_nil (n : Int) : isCov [] n = false := rfl
/-- spans in order, with gaps -/
structure SpnOk (ss : List Pr) : Prop where
  g : ss.Pairwise fun p q => p.2 < q.1
  v : ∀ p ∈ ss, p.1 < p.2
theorem SpnOk.nil : SpnOk [] := ⟨.nil, fun p h => by cases h⟩
theorem sp_snoc {ss : List Pr} {p : Pr} (h : SpnOk ss) (hp : p.1 < p.2) (hl : ∀ l, ss.getLast? = some l → l.2 < p.1) : SpnOk (ss ++ [p]) := by
  refine ⟨List.pairwise_append.mpr ⟨h.g, by simp, fun a ha b hb => ?_⟩, fun q hq => ?_⟩
  · rw [List.mem_singleton] at hb
    subst hb
    rcases List.eq_nil_or_concat ss with rfl | ⟨ss', l, rfl⟩
    · cases ha
    · rw [List.concat_eq_append] at *
      have h1 := hl l (by simp)
      rcases List.mem_append.mp ha with ha | ha
      · have := (List.pairwise_append.mp h.g).2.2 a ha l (by simp)
        have := h.v l (by simp)
        omega
      · rw [List.mem_singleton] at ha
        subst ha
        exact h1
  · rcases List.mem_append.mp hq with hq | hq
    · exact h.v q hq
    · rw [List.mem_singleton.mp hq]; exact hp
theorem merge_fold : ∀ (rest found : List Pr), SpnOk found → rest.Pairwise (fun p q => leP p q = true) → (∀ p ∈ rest, p.1 < p.2) → (∀ l, found.getLast? = some l → ∀ q ∈ rest, l.1 ≤ q.1) →
    (SpnOk (rest.foldl mergeStep found) ∧ (∀ n, isCov (rest.foldl mergeStep found) n = (isCov found n || isCov rest n)) ∧ (∀ p ∈ rest.foldl mergeStep found, (∃ q ∈ found ++ rest, p.1 = q.1) ∧ ∃ q ∈ found ++ rest, p.2 = q.2))
  | [], found, hs, _, _, _ => ⟨hs, fun n => by rw [isCov_nil, Bool.or_false]; rfl, fun p hp => ⟨⟨p, by simpa using hp, rfl⟩, ⟨p, by simpa using hp, rfl⟩⟩⟩
  | p :: rest, found, hs, hp, hv, hl => by
    obtain ⟨h1, h2⟩ := List.pairwise_cons.mp hp
    have hvp := hv p List.mem_cons_self
    have hv' : ∀ q ∈ rest, q.1 < q.2 := fun q hq => hv q (List.mem_cons_of_mem _ hq)
    have hle : ∀ q ∈ rest, p.1 ≤ q.1 := fun q hq => by
      have := leP_iff.mp (h1 q hq)
      omega
    rw [List.foldl_cons]
    rcases List.eq_nil_or_concat found with rfl | ⟨fs, l, rfl⟩
    · have e : mergeStep [] p = [p] := rfl
      rw [e]
      obtain ⟨i1, i2, i3⟩ := merge_fold rest [p] ⟨by simp, fun q hq => by rw [List.mem_singleton.mp hq]; exact hvp⟩ h2 hv' (fun l e q hq => by
        have : p = l := by simpa using e
        subst this
        exact hle q hq)
      refine ⟨i1, fun n => ?_, fun q hq => ?_⟩
      · rw [i2, isCov_nil, Bool.false_or, ← isCov_app]; rfl
      · simpa using i3 q hq
    · rw [List.concat_eq_append] at *
      have hlast : (fs ++ [l]).getLast? = some l := by simp
      have hlp := hl l hlast p List.mem_cons_self
      have hlv := hs.v l (by simp)
      have hfs : SpnOk fs := ⟨(List.pairwise_append.mp hs.g).1, fun q hq => hs.v q (List.mem_append_left _ hq)⟩
      have hfl : ∀ q ∈ fs, q.2 < l.1 := fun q hq => (List.pairwise_append.mp hs.g).2.2 q hq l (by simp)
      have e : mergeStep (fs ++ [l]) p = if p.1 ≤ l.2 then fs ++ [(l.1, if l.2 > p.2 then l.2 else p.2)] else fs ++ [l] ++ [p] := by
        unfold mergeStep
        rw [hlast]
        dsimp only
        rw [List.dropLast_concat]
      rw [e]
      by_cases hc : p.1 ≤ l.2
      · rw [if_pos hc]
        have hm : (if l.2 > p.2 then l.2 else p.2) = l.2 ∨ (if l.2 > p.2 then l.2 else p.2) = p.2 := by split <;> simp
        have hmx : l.2 ≤ (if l.2 > p.2 then l.2 else p.2) ∧ p.2 ≤ (if l.2 > p.2 then l.2 else p.2) := by split <;> omega
        generalize (if l.2 > p.2 then l.2 else p.2) = m at hm hmx
        obtain ⟨i1, i2, i3⟩ := merge_fold rest (fs ++ [(l.1, m)]) (sp_snoc hfs (by dsimp only; omega) fun z hz => hfl z (List.mem_of_getLast? hz)) h2 hv' (fun z e q hq => by
          have : (l.1, m) = z := by simpa using e
          subst this
          have := hle q hq
          dsimp only
          omega)
        refine ⟨i1, fun n => ?_, fun q hq => ?_⟩
        · have e2 : isCov (p :: rest) n = (isCov [p] n || isCov rest n) := isCov_app [p] rest n
          rw [i2, isCov_app, isCov_app, e2]
          have : isCov [(l.1, m)] n = (isCov [l] n || isCov [p] n) := by
            rw [Bool.eq_iff_iff, Bool.or_eq_true, isCov_iff, isCov_iff, isCov_iff]
            simp only [List.mem_singleton, exists_eq_left]
            omega
          rw [this]
          simp only [Bool.or_assoc]
        · obtain ⟨⟨a, ha, ea⟩, ⟨b, hb, eb⟩⟩ := i3 q hq
          refine ⟨?_, ?_⟩
          · rcases List.mem_append.mp ha with ha | ha
            · rcases List.mem_append.mp ha with ha | ha
              · exact ⟨a, by simp [ha], ea⟩
              · rw [List.mem_singleton] at ha
                subst ha
                exact ⟨l, by simp, ea⟩
            · exact ⟨a, by simp [ha], ea⟩
          · rcases List.mem_append.mp hb with hb | hb
            · rcases List.mem_append.mp hb with hb | hb
              · exact ⟨b, by simp [hb], eb⟩
              · rw [List.mem_singleton] at hb
                subst hb
                rcases hm with hm | hm
                · exact ⟨l, by simp, by rw [eb]; exact hm⟩
                · exact ⟨p, by simp, by rw [eb]; exact hm⟩
            · exact ⟨b, by simp [hb], eb⟩
      · rw [if_neg hc]
        obtain ⟨i1, i2, i3⟩ := merge_fold rest (fs ++ [l] ++ [p]) (sp_snoc hs hvp fun z hz => by
          rw [hlast] at hz
          obtain rfl := Option.some.inj hz
          omega) h2 hv' (fun z e q hq => by
          have : p = z := by simpa using e
          subst this
          exact hle q hq)
        refine ⟨i1, fun n => ?_, fun q hq => ?_⟩
        · have e2 : isCov (p :: rest) n = (isCov [p] n || isCov rest n) := isCov_app [p] rest n
          rw [i2, isCov_app, e2, Bool.or_assoc]
        · have := i3 q hq
          simpa using this
theorem merged_ok {ps : List Pr} (hv : ∀ p ∈ ps, p.1 < p.2) : SpnOk (merged ps) ∧ (∀ n, isCov (merged ps) n = isCov ps n) ∧ ∀ p ∈ merged ps, (∃ q ∈ ps, p.1 = q.1) ∧ ∃ q ∈ ps, p.2 = q.2 := by
  obtain ⟨h1, h2, h3⟩ := merge_fold (sortP ps) [] SpnOk.nil sortP_pw (fun p hp => hv p (mem_sortP.mp hp)) (fun l h => by cases h)
  refine ⟨h1, fun n => ?_, fun p hp => ?_⟩
  · unfold merged
    rw [h2, isCov_nil, Bool.false_or, Bool.eq_iff_iff, isCov_iff, isCov_iff]
    constructor
    · rintro ⟨s, hs, h⟩; exact ⟨s, mem_sortP.mp hs, h⟩
    · rintro ⟨s, hs, h⟩; exact ⟨s, mem_sortP.mpr hs, h⟩
  · obtain ⟨⟨a, ha, ea⟩, ⟨b, hb, eb⟩⟩ := h3 p hp
    rw [List.nil_append] at ha hb
    exact ⟨⟨a, mem_sortP.mp ha, ea⟩, ⟨b, mem_sortP.mp hb, eb⟩⟩
/-! ### neighbours in a rising list -/
theorem adj_in : ∀ {L : List Int} {p : Pr}, L.Pairwise (· < ·) → p ∈ adj L → p.1 ∈ L ∧ p.2 ∈ L ∧ p.1 < p.2 ∧ ∀ z ∈ L, z ≤ p.1 ∨ p.2 ≤ z
  | [], p, _, h => by cases h
  | [x], p, _, h => by cases h
  | x :: y :: r, p, hp, h => by
    obtain ⟨h1, h2⟩ := List.pairwise_cons.mp hp
    obtain ⟨h3, h4⟩ := List.pairwise_cons.mp h2
    have h : p ∈ (x, y) :: adj (y :: r) := h
    rcases List.mem_cons.mp h with rfl | h
    · refine ⟨by simp, by simp, h1 y (by simp), fun z hz => ?_⟩
      rcases List.mem_cons.mp hz with rfl | hz
      · exact .inl (Int.le_refl _)
      · rcases List.mem_cons.mp hz with rfl | hz
        · exact .inr (Int.le_refl _)
        · have := h3 z hz
          exact .inr (by dsimp only; omega)
    · obtain ⟨k1, k2, k3, k4⟩ := adj_in h2 h
      refine ⟨List.mem_cons_of_mem _ k1, List.mem_cons_of_mem _ k2, k3, fun z hz => ?_⟩
      rcases List.mem_cons.mp hz with rfl | hz
      · have := h1 p.1 k1
        exact .inl (by omega)
      · exact k4 z hz
theorem adj_at : ∀ {L : List Int} {x a b : Int}, L.Pairwise (· < ·) → a ∈ L → b ∈ L → a ≤ x → x < b → ∃ p ∈ adj L, p.1 ≤ x ∧ x < p.2
  | [], x, a, b, _, h, _, _, _ => by cases h
  | [z], x, a, b, _, ha, hb, h1, h2 => by
    rw [List.mem_singleton] at ha hb
    omega
  | z :: y :: r, x, a, b, hp, ha, hb, h1, h2 => by
    obtain ⟨g1, g2⟩ := List.pairwise_cons.mp hp
    by_cases hxy : x < y
    · refine ⟨(z, y), by simp [adj], ?_, hxy⟩
      rcases List.mem_cons.mp ha with rfl | ha
      · exact h1
      · rcases List.mem_cons.mp ha with rfl | ha
        · omega
        · have := (List.pairwise_cons.mp g2).1 a ha
          omega
    · have hb' : b ∈ y :: r := by
        rcases List.mem_cons.mp hb with rfl | hb
        · have := g1 y (by simp)
          omega
        · exact hb
      obtain ⟨p, hp', h3⟩ := adj_at g2 (a := y) (by simp) hb' (by omega) h2
      exact ⟨p, List.mem_cons_of_mem _ hp', h3⟩
theorem adj_pw : ∀ {L : List Int}, L.Pairwise (· < ·) → (adj L).Pairwise fun p q => p.2 ≤ q.1
  | [], _ => .nil
  | [x], _ => .nil
  | x :: y :: r, h => by
    obtain ⟨h1, h2⟩ := List.pairwise_cons.mp h
    refine List.pairwise_cons.mpr ⟨fun p hp => ?_, adj_pw h2⟩
    obtain ⟨k1, _⟩ := adj_in h2 hp
    rcases List.mem_cons.mp k1 with e | k1
    · rw [e]; exact Int.le_refl _
    · have := (List.pairwise_cons.mp h2).1 _ k1
      dsimp only
      omega
/-! ### forms -/
/-- slabs in order -/
structure Srt (f : Form) : Prop where
  o : f.Pairwise fun s t => s.2.1 ≤ t.1
  v : ∀ s ∈ f, s.1 < s.2.1
theorem spansAt_in' : ∀ {f : Form} {x : Int}, (spansAt f x = [] ∧ ∀ s ∈ f, ¬ (s.1 ≤ x ∧ x < s.2.1)) ∨ ∃ s ∈ f, (s.1 ≤ x ∧ x < s.2.1) ∧ spansAt f x = s.2.2
  | [], x => .inl ⟨rfl, fun s h => by cases h⟩
  | s :: f, x => by
    unfold spansAt
    by_cases h : s.1 ≤ x ∧ x < s.2.1
    · rw [if_pos h]
      exact .inr ⟨s, List.mem_cons_self, h, rfl⟩
    · rw [if_neg h]
      rcases spansAt_in' (f := f) (x := x) with ⟨h1, h2⟩ | ⟨t, h1, h2⟩
      · refine .inl ⟨h1, fun t ht => ?_⟩
        rcases List.mem_cons.mp ht with rfl | ht
        · exact h
        · exact h2 t ht
      · exact .inr ⟨t, List.mem_cons_of_mem _ h1, h2⟩
theorem Srt.one {f : Form} (h : Srt f) {s t : Slab} {x : Int} (hs : s ∈ f) (ht : t ∈ f) (h1 : s.1 ≤ x ∧ x < s.2.1) (h2 : t.1 ≤ x ∧ x < t.2.1) : s = t := by
  induction f with
  | nil => cases hs
  | cons u f ih =>
    obtain ⟨k1, k2⟩ := List.pairwise_cons.mp h.o
    rcases List.mem_cons.mp hs with e | hs'
    · rcases List.mem_cons.mp ht with e' | ht'
      · rw [e, e']
      · have := k1 t ht'
        rw [← e] at this
        omega
    · rcases List.mem_cons.mp ht with e' | ht'
      · have := k1 s hs'
        rw [← e'] at this
        omega
      · exact ih ⟨k2, fun v hv => h.v v (List.mem_cons_of_mem _ hv)⟩ hs' ht'
theorem Srt.at {f : Form} (h : Srt f) {s : Slab} {x : Int} (hs : s ∈ f) (h1 : s.1 ≤ x ∧ x < s.2.1) : spansAt f x = s.2.2 := by
  rcases spansAt_in' (f := f) (x := x) with ⟨_, h2⟩ | ⟨t, ht, h2, h3⟩
  · exact absurd h1 (h2 s hs)
  · rw [h3, h.one ht hs h2 h1]
theorem spansAt_none {f : Form} {x : Int} (h : ∀ s ∈ f, ¬ (s.1 ≤ x ∧ x < s.2.1)) : spansAt f x = [] := by
  rcases spansAt_in' (f := f) (x := x) with ⟨h1, _⟩ | ⟨t, ht, h2, _⟩
  · exact h1
  · exact absurd h2 (h t ht)
theorem tidy_fold : ∀ (rest found : Form), Srt (found ++ rest) → (∀ s ∈ found, s.2.2 ≠ []) →
    (Srt (rest.foldl tidyStep found) ∧ (∀ s ∈ rest.foldl tidyStep found, s.2.2 ≠ []) ∧ (∀ x, spansAt (rest.foldl tidyStep found) x = spansAt (found ++ rest) x) ∧
      ∀ s ∈ rest.foldl tidyStep found, (∃ t ∈ found ++ rest, s.1 = t.1) ∧ (∃ t ∈ found ++ rest, s.2.1 = t.2.1) ∧ ∃ t ∈ found ++ rest, s.2.2 = t.2.2)
  | [], found, hs, hn => by
    rw [List.append_nil] at hs ⊢
    exact ⟨hs, hn, fun x => rfl, fun s h => ⟨⟨s, h, rfl⟩, ⟨s, h, rfl⟩, ⟨s, h, rfl⟩⟩⟩
  | s :: rest, found, hs, hn => by
    rw [List.foldl_cons]
    have hall : ∀ {g : Form} {x : Int}, Srt g → (∀ u, u ∈ g → u ∈ found ++ s :: rest) → True := fun _ _ => trivial
    have pw := List.pairwise_append.mp hs.o
    obtain ⟨pw1, pw2, pw3⟩ := pw
    obtain ⟨q1, q2⟩ := List.pairwise_cons.mp pw2
    have vs := hs.v s (by simp)
    -- the slab without spans is left out
    have hdrop : s.2.2 = [] → Srt (found ++ rest) ∧ ∀ x, spansAt (found ++ rest) x = spansAt (found ++ s :: rest) x := fun he => by
      have hsr : Srt (found ++ rest) := ⟨List.pairwise_append.mpr ⟨pw1, q2, fun a ha b hb => pw3 a ha b (List.mem_cons_of_mem _ hb)⟩, fun u hu => hs.v u (by
        rcases List.mem_append.mp hu with h | h
        · exact List.mem_append_left _ h
        · exact List.mem_append_right _ (List.mem_cons_of_mem _ h))⟩
      refine ⟨hsr, fun x => ?_⟩
      by_cases hx : s.1 ≤ x ∧ x < s.2.1
      · rw [hs.at (s := s) (by simp) hx, he]
        refine spansAt_none fun u hu hux => ?_
        have : u = s := hs.one (by
          rcases List.mem_append.mp hu with h | h
          · exact List.mem_append_left _ h
          · exact List.mem_append_right _ (List.mem_cons_of_mem _ h)) (by simp) hux hx
        subst this
        rcases List.mem_append.mp hu with h | h
        · exact hn u h he
        · have := q1 u h
          omega
      · rcases spansAt_in' (f := found ++ s :: rest) (x := x) with ⟨h1, h2⟩ | ⟨t, ht, h2, h3⟩
        · rw [h1]
          exact spansAt_none fun u hu => h2 u (by
            rcases List.mem_append.mp hu with h | h
            · exact List.mem_append_left _ h
            · exact List.mem_append_right _ (List.mem_cons_of_mem _ h))
        · rw [h3]
          refine hsr.at ?_ h2
          rcases List.mem_append.mp ht with h | h
          · exact List.mem_append_left _ h
          · rcases List.mem_cons.mp h with rfl | h
            · exact absurd h2 hx
            · exact List.mem_append_right _ h
    have fin : ∀ (g : Form), (Srt (g ++ rest)) → (∀ u ∈ g, u.2.2 ≠ []) → (∀ x, spansAt (g ++ rest) x = spansAt (found ++ s :: rest) x) → (∀ u ∈ g ++ rest, (∃ t ∈ found ++ s :: rest, u.1 = t.1) ∧ (∃ t ∈ found ++ s :: rest, u.2.1 = t.2.1) ∧ ∃ t ∈ found ++ s :: rest, u.2.2 = t.2.2) →
        (Srt (rest.foldl tidyStep g) ∧ (∀ s ∈ rest.foldl tidyStep g, s.2.2 ≠ []) ∧ (∀ x, spansAt (rest.foldl tidyStep g) x = spansAt (found ++ s :: rest) x) ∧
          ∀ u ∈ rest.foldl tidyStep g, (∃ t ∈ found ++ s :: rest, u.1 = t.1) ∧ (∃ t ∈ found ++ s :: rest, u.2.1 = t.2.1) ∧ ∃ t ∈ found ++ s :: rest, u.2.2 = t.2.2) := fun g hg hgn hgx hgm => by
      obtain ⟨i1, i2, i3, i4⟩ := tidy_fold rest g hg hgn
      refine ⟨i1, i2, fun x => by rw [i3, hgx], fun u hu => ?_⟩
      obtain ⟨⟨a, ha, ea⟩, ⟨b, hb, eb⟩, ⟨c, hc, ec⟩⟩ := i4 u hu
      refine ⟨?_, ?_, ?_⟩
      · obtain ⟨t, ht, e⟩ := (hgm a ha).1; exact ⟨t, ht, ea.trans e⟩
      · obtain ⟨t, ht, e⟩ := (hgm b hb).2.1; exact ⟨t, ht, eb.trans e⟩
      · obtain ⟨t, ht, e⟩ := (hgm c hc).2.2; exact ⟨t, ht, ec.trans e⟩
    have sub : ∀ u ∈ found ++ rest, u ∈ found ++ s :: rest := fun u hu => by
      rcases List.mem_append.mp hu with h | h
      · exact List.mem_append_left _ h
      · exact List.mem_append_right _ (List.mem_cons_of_mem _ h)
    have drop : s.2.2 = [] → _ := fun he => fin found (hdrop he).1 hn (hdrop he).2 fun u hu => ⟨⟨u, sub u hu, rfl⟩, ⟨u, sub u hu, rfl⟩, ⟨u, sub u hu, rfl⟩⟩
    have keep : s.2.2 ≠ [] → _ := fun he => fin (found ++ [s]) (by rw [List.append_assoc]; exact hs) (fun u hu => by
      rcases List.mem_append.mp hu with h | h
      · exact hn u h
      · rw [List.mem_singleton.mp h]; exact he) (fun x => by rw [List.append_assoc]; rfl) fun u hu => by
        rw [List.append_assoc] at hu
        exact ⟨⟨u, hu, rfl⟩, ⟨u, hu, rfl⟩, ⟨u, hu, rfl⟩⟩
    rcases List.eq_nil_or_concat found with rfl | ⟨fs, l, rfl⟩
    · have e : tidyStep [] s = if s.2.2 = [] then [] else [s] := rfl
      rw [e]
      by_cases he : s.2.2 = []
      · rw [if_pos he]; exact drop he
      · rw [if_neg he]; exact keep he
    · rw [List.concat_eq_append] at *
      have e : tidyStep (fs ++ [l]) s = if l.2.1 = s.1 ∧ l.2.2 = s.2.2 then fs ++ [(l.1, s.2.1, s.2.2)] else if s.2.2 = [] then fs ++ [l] else fs ++ [l] ++ [s] := by
        unfold tidyStep
        rw [show (fs ++ [l]).getLast? = some l by simp]
        dsimp only
        rw [List.dropLast_concat]
      rw [e]
      by_cases hj : l.2.1 = s.1 ∧ l.2.2 = s.2.2
      · rw [if_pos hj]
        obtain ⟨j1, j2⟩ := hj
        have lv := hs.v l (by simp)
        have hne : s.2.2 ≠ [] := by rw [← j2]; exact hn l (by simp)
        have pf := List.pairwise_append.mp pw1
        have srt : Srt (fs ++ [(l.1, s.2.1, s.2.2)] ++ rest) := by
          refine ⟨?_, fun u hu => ?_⟩
          · rw [List.append_assoc]
            refine List.pairwise_append.mpr ⟨pf.1, ?_, fun a ha b hb => ?_⟩
            · exact List.pairwise_cons.mpr ⟨fun b hb => q1 b hb, q2⟩
            · rcases List.mem_cons.mp hb with rfl | hb
              · exact pf.2.2 a ha l (by simp)
              · exact pw3 a (List.mem_append_left _ ha) b (List.mem_cons_of_mem _ hb)
          · rcases List.mem_append.mp hu with h | h
            · rcases List.mem_append.mp h with h | h
              · exact hs.v u (by simp [h])
              · rw [List.mem_singleton.mp h]
                dsimp only
                omega
            · exact hs.v u (by simp [h])
        refine fin _ srt (fun u hu => ?_) (fun x => ?_) fun u hu => ?_
        · rcases List.mem_append.mp hu with h | h
          · exact hn u (List.mem_append_left _ h)
          · rw [List.mem_singleton.mp h]; exact hne
        · rcases spansAt_in' (f := fs ++ [l] ++ s :: rest) (x := x) with ⟨h1, h2⟩ | ⟨t, ht, h2, h3⟩
          · rw [h1]
            refine spansAt_none fun u hu hux => ?_
            rcases List.mem_append.mp hu with h | h
            · rcases List.mem_append.mp h with h | h
              · exact h2 u (by simp [h]) hux
              · rw [List.mem_singleton.mp h] at hux
                dsimp only at hux
                have := h2 l (by simp)
                have := h2 s (by simp)
                omega
            · exact h2 u (by simp [h]) hux
          · rw [h3]
            have hmem : t ∈ fs ∨ t = l ∨ t = s ∨ t ∈ rest := by
              rcases List.mem_append.mp ht with h | h
              · rcases List.mem_append.mp h with h | h
                · exact .inl h
                · exact .inr (.inl (List.mem_singleton.mp h))
              · rcases List.mem_cons.mp h with h | h
                · exact .inr (.inr (.inl h))
                · exact .inr (.inr (.inr h))
            rcases hmem with h | rfl | rfl | h
            · exact srt.at (by simp [h]) h2
            · rw [srt.at (s := (t.1, s.2.1, s.2.2)) (by simp) ⟨h2.1, by dsimp only; omega⟩]
              exact j2.symm
            · exact srt.at (s := (l.1, t.2.1, t.2.2)) (by simp) ⟨by dsimp only; omega, h2.2⟩
            · exact srt.at (by simp [h]) h2
        · rcases List.mem_append.mp hu with h | h
          · rcases List.mem_append.mp h with h | h
            · exact ⟨⟨u, by simp [h], rfl⟩, ⟨u, by simp [h], rfl⟩, ⟨u, by simp [h], rfl⟩⟩
            · rw [List.mem_singleton.mp h]
              exact ⟨⟨l, by simp, rfl⟩, ⟨s, by simp, rfl⟩, ⟨s, by simp, rfl⟩⟩
          · exact ⟨⟨u, by simp [h], rfl⟩, ⟨u, by simp [h], rfl⟩, ⟨u, by simp [h], rfl⟩⟩
      · rw [if_neg hj]
        by_cases he : s.2.2 = []
        · rw [if_pos he]; exact drop he
        · rw [if_neg he]; exact keep he
theorem tidy_ok {f : Form} (h : Srt f) : Srt (tidy f) ∧ (∀ s ∈ tidy f, s.2.2 ≠ []) ∧ (∀ x, spansAt (tidy f) x = spansAt f x) ∧ ∀ s ∈ tidy f, (∃ t ∈ f, s.1 = t.1) ∧ (∃ t ∈ f, s.2.1 = t.2.1) ∧ ∃ t ∈ f, s.2.2 = t.2.2 :=
  tidy_fold f [] h fun s h => by cases h
/-! ### raw forms over cuts -/
def rawOf (L : List Int) (g : Int → List Pr) : Form := (adj L).map fun p => (p.1, p.2, g p.1)
theorem rawOf_srt {L : List Int} (h : L.Pairwise (· < ·)) (g : Int → List Pr) : Srt (rawOf L g) := by
  refine ⟨List.pairwise_map.mpr ((adj_pw h).imp fun {a b} z => z), fun s hs => ?_⟩
  obtain ⟨p, hp, rfl⟩ := List.mem_map.mp hs
  exact (adj_in h hp).2.2.1
theorem rawOf_at {L : List Int} (h : L.Pairwise (· < ·)) (g : Int → List Pr) (x : Int) : (∃ a ∈ L, a ≤ x ∧ spansAt (rawOf L g) x = g a ∧ (∀ z ∈ L, z ≤ a ∨ x < z) ∧ ∃ b ∈ L, x < b) ∨ (spansAt (rawOf L g) x = [] ∧ ((∀ z ∈ L, z ≤ x) ∨ ∀ z ∈ L, x < z)) := by
  by_cases hlo : ∃ a ∈ L, a ≤ x
  · by_cases hhi : ∃ b ∈ L, x < b
    · obtain ⟨a, ha, hax⟩ := hlo
      obtain ⟨b, hb, hbx⟩ := hhi
      obtain ⟨p, hp, h1, h2⟩ := adj_at h ha hb hax hbx
      obtain ⟨k1, k2, k3, k4⟩ := adj_in h hp
      refine .inl ⟨p.1, k1, h1, (rawOf_srt h g).at (s := (p.1, p.2, g p.1)) (List.mem_map.mpr ⟨p, hp, rfl⟩) ⟨h1, h2⟩, fun z hz => ?_, ⟨p.2, k2, h2⟩⟩
      rcases k4 z hz with h | h
      · exact .inl h
      · exact .inr (by omega)
    · have hall : ∀ z ∈ L, z ≤ x := fun z hz => by
        refine Classical.byContradiction fun w => hhi ⟨z, hz, by omega⟩
      refine .inr ⟨spansAt_none fun s hs hx => ?_, .inl hall⟩
      obtain ⟨p, hp, rfl⟩ := List.mem_map.mp hs
      have := hall _ (adj_in h hp).2.1
      dsimp only at hx
      omega
  · have hall : ∀ z ∈ L, x < z := fun z hz => by
      refine Classical.byContradiction fun w => hlo ⟨z, hz, by omega⟩
    refine .inr ⟨spansAt_none fun s hs hx => ?_, .inr hall⟩
    obtain ⟨p, hp, rfl⟩ := List.mem_map.mp hs
    have := hall _ (adj_in h hp).1
    dsimp only at hx
    omega
/-! ### the form of boxes -/
/-- a form that is one -/
structure Wf (f : Form) : Prop where
  s : Srt f
  n : ∀ s ∈ f, s.2.2 ≠ []
  p : ∀ s ∈ f, SpnOk s.2.2
def inF (f : Form) (p : Pr) : Prop := isCov (spansAt f p.1) p.2 = true
/-- where a form's lines lie -/
structure FIn (f : Form) (BX BY : List Int) : Prop where
  x : ∀ s ∈ f, s.1 ∈ BX ∧ s.2.1 ∈ BX
  y : ∀ s ∈ f, ∀ p ∈ s.2.2, p.1 ∈ BY ∧ p.2 ∈ BY
theorem Wf.sp {f : Form} (h : Wf f) (x : Int) : SpnOk (spansAt f x) := by
  rcases spansAt_in' (f := f) (x := x) with ⟨h1, _⟩ | ⟨t, ht, _, h3⟩
  · rw [h1]; exact SpnOk.nil
  · rw [h3]; exact h.p t ht
theorem bxs_mem {bs : List Box} {b : Box} (h : b ∈ bs) : b.1 ∈ sortU (bxs bs) ∧ b.2.2.1 ∈ sortU (bxs bs) := by
  rw [mem_sortU, mem_sortU]
  unfold bxs
  exact ⟨List.mem_flatMap.mpr ⟨b, h, by simp⟩, List.mem_flatMap.mpr ⟨b, h, by simp⟩⟩
theorem pairsAt_mem {bs : List Box} {x : Int} {p : Pr} : p ∈ pairsAt bs x ↔ ∃ b ∈ bs, (b.1 ≤ x ∧ x < b.2.2.1) ∧ p = (b.2.1, b.2.2.2) := by
  unfold pairsAt
  rw [List.mem_map]
  constructor
  · rintro ⟨b, hb, rfl⟩
    obtain ⟨h1, h2⟩ := List.mem_filter.mp hb
    exact ⟨b, h1, of_decide_eq_true h2, rfl⟩
  · rintro ⟨b, h1, h2, rfl⟩
    exact ⟨b, List.mem_filter.mpr ⟨h1, decide_eq_true h2⟩, rfl⟩
theorem slabsOf_ok {bs : List Box} (hv : ∀ b ∈ bs, b.2.1 < b.2.2.2) : Wf (slabsOf bs) ∧ (∀ p, inF (slabsOf bs) p ↔ inBoxes bs p) ∧ FIn (slabsOf bs) (bxs bs) (bs.flatMap fun b => [b.2.1, b.2.2.2]) := by
  have hL : (sortU (bxs bs)).Pairwise (· < ·) := sortU_pw
  have e : slabsOf bs = tidy (rawOf (sortU (bxs bs)) fun a => merged (pairsAt bs a)) := rfl
  have hpv : ∀ a, ∀ p ∈ pairsAt bs a, p.1 < p.2 := fun a p hp => by
    obtain ⟨b, hb, _, rfl⟩ := pairsAt_mem.mp hp
    exact hv b hb
  obtain ⟨t1, t2, t3, t4⟩ := tidy_ok (rawOf_srt hL fun a => merged (pairsAt bs a))
  rw [e]
  refine ⟨⟨t1, t2, fun s hs => ?_⟩, fun p => ?_, ⟨fun s hs => ?_, fun s hs p hp => ?_⟩⟩
  · obtain ⟨t, ht, e⟩ := (t4 s hs).2.2
    rw [e]
    obtain ⟨p, hp, rfl⟩ := List.mem_map.mp ht
    exact (merged_ok (hpv p.1)).1
  · unfold inF
    rw [t3]
    rcases rawOf_at hL (fun a => merged (pairsAt bs a)) p.1 with ⟨a, ha, hax, hat, hz, b, hb, hbx⟩ | ⟨h1, h2⟩
    · rw [hat, (merged_ok (hpv a)).2.1, isCov_iff]
      constructor
      · rintro ⟨s, hs, h3⟩
        obtain ⟨c, hc, h4, rfl⟩ := pairsAt_mem.mp hs
        have := hz _ (bxs_mem hc).2
        exact ⟨c, hc, by omega, by omega, h3.1, h3.2⟩
      · rintro ⟨c, hc, h3, h4, h5, h6⟩
        have := hz _ (bxs_mem hc).1
        exact ⟨(c.2.1, c.2.2.2), pairsAt_mem.mpr ⟨c, hc, by omega, rfl⟩, h5, h6⟩
    · rw [h1, isCov_nil]
      constructor
      · intro h; cases h
      · rintro ⟨c, hc, h3, h4, _⟩
        obtain ⟨k1, k2⟩ := bxs_mem hc
        rcases h2 with h2 | h2
        · have := h2 _ k2; omega
        · have := h2 _ k1; omega
  · obtain ⟨⟨a, ha, ea⟩, ⟨b, hb, eb⟩, _⟩ := t4 s hs
    obtain ⟨p, hp, rfl⟩ := List.mem_map.mp ha
    obtain ⟨q, hq, rfl⟩ := List.mem_map.mp hb
    rw [ea, eb]
    exact ⟨mem_sortU.mp (adj_in hL hp).1, mem_sortU.mp (adj_in hL hq).2.1⟩
  · obtain ⟨t, ht, e⟩ := (t4 s hs).2.2
    rw [e] at hp
    obtain ⟨z, hz, rfl⟩ := List.mem_map.mp ht
    obtain ⟨⟨a, ha, ea⟩, ⟨b, hb, eb⟩⟩ := (merged_ok (hpv z.1)).2.2 p hp
    obtain ⟨c, hc, _, rfl⟩ := pairsAt_mem.mp ha
    obtain ⟨d, hd, _, rfl⟩ := pairsAt_mem.mp hb
    rw [ea, eb]
    exact ⟨List.mem_flatMap.mpr ⟨c, hc, by simp⟩, List.mem_flatMap.mpr ⟨d, hd, by simp⟩⟩
/-! ### two forms combined -/
theorem combined_ok {a b : List Pr} (w : Wd) (ha : SpnOk a) (hb : SpnOk b) : SpnOk (combined a b w) ∧ (∀ n, isCov (combined a b w) n = want w (isCov a n) (isCov b n)) ∧ ∀ p ∈ combined a b w, p.1 ∈ endsOf (a ++ b) ∧ p.2 ∈ endsOf (a ++ b) := by
  have hL : (sortU (endsOf (a ++ b))).Pairwise (· < ·) := sortU_pw
  have hv : ∀ p ∈ (adj (sortU (endsOf (a ++ b)))).filter (fun p => want w (isCov a p.1) (isCov b p.1)), p.1 < p.2 := fun p hp => (adj_in hL (List.mem_filter.mp hp).1).2.2.1
  obtain ⟨h1, h2, h3⟩ := merged_ok hv
  have ends : ∀ s ∈ a ++ b, s.1 ∈ sortU (endsOf (a ++ b)) ∧ s.2 ∈ sortU (endsOf (a ++ b)) := fun s hs => by
    rw [mem_sortU, mem_sortU]
    unfold endsOf
    exact ⟨List.mem_flatMap.mpr ⟨s, hs, by simp⟩, List.mem_flatMap.mpr ⟨s, hs, by simp⟩⟩
  have same : ∀ (c : List Pr), (∀ s ∈ c, s ∈ a ++ b) → ∀ (u n : Int), u ≤ n → (∀ z ∈ sortU (endsOf (a ++ b)), z ≤ u ∨ n < z) → isCov c u = isCov c n := fun c hc u n hun hz => by
    rw [Bool.eq_iff_iff, isCov_iff, isCov_iff]
    constructor
    · rintro ⟨s, hs, h4⟩
      obtain ⟨k1, k2⟩ := ends s (hc s hs)
      have := hz _ k1
      have := hz _ k2
      exact ⟨s, hs, by omega⟩
    · rintro ⟨s, hs, h4⟩
      obtain ⟨k1, k2⟩ := ends s (hc s hs)
      have := hz _ k1
      have := hz _ k2
      exact ⟨s, hs, by omega⟩
  refine ⟨h1, fun n => ?_, fun p hp => ?_⟩
  · show isCov (merged _) n = _
    rw [h2]
    by_cases hin : ∃ p ∈ adj (sortU (endsOf (a ++ b))), p.1 ≤ n ∧ n < p.2
    · obtain ⟨p, hp, k1, k2⟩ := hin
      obtain ⟨j1, j2, j3, j4⟩ := adj_in hL hp
      have hz : ∀ z ∈ sortU (endsOf (a ++ b)), z ≤ p.1 ∨ n < z := fun z hz => by
        rcases j4 z hz with h | h
        · exact .inl h
        · exact .inr (by omega)
      have ea := same a (fun s h => List.mem_append_left _ h) p.1 n k1 hz
      have eb := same b (fun s h => List.mem_append_right _ h) p.1 n k1 hz
      rw [Bool.eq_iff_iff, isCov_iff]
      constructor
      · rintro ⟨q, hq, h4⟩
        obtain ⟨h5, h6⟩ := List.mem_filter.mp hq
        have hqp : q.1 = p.1 := by
          obtain ⟨i1, i2, i3, i4⟩ := adj_in hL h5
          have := i4 _ j1
          have := j4 _ i1
          omega
        rw [hqp, ea, eb] at h6
        exact h6
      · intro h
        exact ⟨p, List.mem_filter.mpr ⟨hp, by rw [ea, eb]; exact h⟩, k1, k2⟩
    · have none : ∀ (c : List Pr), (∀ s ∈ c, s ∈ a ++ b) → isCov c n = false := fun c hc => by
        rw [Bool.eq_false_iff]
        intro h
        obtain ⟨s, hs, h4⟩ := isCov_iff.mp h
        obtain ⟨k1, k2⟩ := ends s (hc s hs)
        exact hin (adj_at hL k1 k2 h4.1 h4.2)
      rw [none a (fun s h => List.mem_append_left _ h), none b (fun s h => List.mem_append_right _ h)]
      have : want w false false = false := by cases w <;> rfl
      rw [this, Bool.eq_false_iff]
      intro h
      obtain ⟨q, hq, h4⟩ := isCov_iff.mp h
      exact hin ⟨q, (List.mem_filter.mp hq).1, h4⟩
  · obtain ⟨⟨q, hq, e1⟩, ⟨r, hr, e2⟩⟩ := h3 p hp
    rw [e1, e2]
    exact ⟨mem_sortU.mp (adj_in hL (List.mem_filter.mp hq).1).1, mem_sortU.mp (adj_in hL (List.mem_filter.mp hr).1).2.1⟩
theorem xs_mem {f : Form} {s : Slab} (h : s ∈ f) : s.1 ∈ cutsOf f ∧ s.2.1 ∈ cutsOf f := by
  unfold cutsOf
  rw [mem_sortU, mem_sortU]
  unfold xsOf
  exact ⟨List.mem_flatMap.mpr ⟨s, h, by simp⟩, List.mem_flatMap.mpr ⟨s, h, by simp⟩⟩
theorem spansAt_same {f g : Form} (hf : ∀ s ∈ f, s ∈ g) {u n : Int} (hun : u ≤ n) (hz : ∀ z ∈ cutsOf g, z ≤ u ∨ n < z) : spansAt f u = spansAt f n := by
  induction f with
  | nil => rfl
  | cons s f ih =>
    obtain ⟨k1, k2⟩ := xs_mem (hf s List.mem_cons_self)
    have z1 := hz _ k1
    have z2 := hz _ k2
    unfold spansAt
    by_cases h : s.1 ≤ u ∧ u < s.2.1
    · rw [if_pos h, if_pos (by omega)]
    · rw [if_neg h, if_neg (by omega)]
      exact ih fun t ht => hf t (List.mem_cons_of_mem _ ht)
theorem mixed_ok {f g : Form} (w : Wd) (hf : Wf f) (hg : Wf g) {BX BY : List Int} (bf : FIn f BX BY) (bg : FIn g BX BY) : Wf (mixed f g w) ∧ (∀ p, inF (mixed f g w) p ↔ want w (isCov (spansAt f p.1) p.2) (isCov (spansAt g p.1) p.2) = true) ∧ FIn (mixed f g w) BX BY := by
  have hL : (cutsOf (f ++ g)).Pairwise (· < ·) := sortU_pw
  have e : mixed f g w = tidy (rawOf (cutsOf (f ++ g)) fun a => combined (spansAt f a) (spansAt g a) w) := rfl
  obtain ⟨t1, t2, t3, t4⟩ := tidy_ok (rawOf_srt hL fun a => combined (spansAt f a) (spansAt g a) w)
  have hsp : ∀ (h : Form), FIn h BX BY → ∀ a, ∀ p ∈ spansAt h a, p.1 ∈ BY ∧ p.2 ∈ BY := fun h bh a p hp => by
    rcases spansAt_in' (f := h) (x := a) with ⟨h1, _⟩ | ⟨t, ht, _, h3⟩
    · rw [h1] at hp; cases hp
    · rw [h3] at hp; exact bh.y t ht p hp
  have hcut : ∀ z ∈ cutsOf (f ++ g), z ∈ BX := fun z hz => by
    unfold cutsOf at hz
    rw [mem_sortU] at hz
    unfold xsOf at hz
    obtain ⟨s, hs, h⟩ := List.mem_flatMap.mp hz
    have hb : s.1 ∈ BX ∧ s.2.1 ∈ BX := by
      rcases List.mem_append.mp hs with hs | hs
      · exact bf.x s hs
      · exact bg.x s hs
    simp only [List.mem_cons, List.not_mem_nil, or_false] at h
    rcases h with rfl | rfl
    · exact hb.1
    · exact hb.2
  rw [e]
  refine ⟨⟨t1, t2, fun s hs => ?_⟩, fun p => ?_, ⟨fun s hs => ?_, fun s hs p hp => ?_⟩⟩
  · obtain ⟨t, ht, e⟩ := (t4 s hs).2.2
    rw [e]
    obtain ⟨p, hp, rfl⟩ := List.mem_map.mp ht
    exact (combined_ok w (hf.sp p.1) (hg.sp p.1)).1
  · unfold inF
    rw [t3]
    rcases rawOf_at hL (fun a => combined (spansAt f a) (spansAt g a) w) p.1 with ⟨a, ha, hax, hat, hz, b, hb, hbx⟩ | ⟨h1, h2⟩
    · rw [hat, (combined_ok w (hf.sp a) (hg.sp a)).2.1, spansAt_same (f := f) (g := f ++ g) (fun s h => List.mem_append_left _ h) hax hz, spansAt_same (f := g) (g := f ++ g) (fun s h => List.mem_append_right _ h) hax hz]
    · have none : ∀ (h : Form), (∀ s ∈ h, s ∈ f ++ g) → spansAt h p.1 = [] := fun h hh => spansAt_none fun s hs hx => by
        obtain ⟨k1, k2⟩ := xs_mem (hh s hs)
        rcases h2 with h2 | h2
        · have := h2 _ k2; omega
        · have := h2 _ k1; omega
      rw [h1, none f (fun s h => List.mem_append_left _ h), none g (fun s h => List.mem_append_right _ h), isCov_nil]
      have : want w false false = false := by cases w <;> rfl
      rw [this]
  · obtain ⟨⟨a, ha, ea⟩, ⟨b, hb, eb⟩, _⟩ := t4 s hs
    obtain ⟨p, hp, rfl⟩ := List.mem_map.mp ha
    obtain ⟨q, hq, rfl⟩ := List.mem_map.mp hb
    rw [ea, eb]
    exact ⟨hcut _ (adj_in hL hp).1, hcut _ (adj_in hL hq).2.1⟩
  · obtain ⟨t, ht, e⟩ := (t4 s hs).2.2
    rw [e] at hp
    obtain ⟨z, hz, rfl⟩ := List.mem_map.mp ht
    obtain ⟨h1, h2⟩ := (combined_ok w (hf.sp z.1) (hg.sp z.1)).2.2 p hp
    have hend : ∀ k ∈ endsOf (spansAt f z.1 ++ spansAt g z.1), k ∈ BY := fun k hk => by
      unfold endsOf at hk
      obtain ⟨s, hs, h⟩ := List.mem_flatMap.mp hk
      have hb : s.1 ∈ BY ∧ s.2 ∈ BY := by
        rcases List.mem_append.mp hs with hs | hs
        · exact hsp f bf _ s hs
        · exact hsp g bg _ s hs
      simp only [List.mem_cons, List.not_mem_nil, or_false] at h
      rcases h with rfl | rfl
      · exact hb.1
      · exact hb.2
    exact ⟨hend _ h1, hend _ h2⟩
/-! ### the boxes of a form -/
theorem mem_boxesOf {f : Form} {b : Box} : b ∈ boxesOf f ↔ ∃ s ∈ f, ∃ p ∈ s.2.2, b = (s.1, p.1, s.2.1, p.2) := by
  unfold boxesOf
  rw [List.mem_flatMap]
  constructor
  · rintro ⟨s, hs, hb⟩
    obtain ⟨p, hp, rfl⟩ := List.mem_map.mp hb
    exact ⟨s, hs, p, hp, rfl⟩
  · rintro ⟨s, hs, p, hp, rfl⟩
    exact ⟨s, hs, List.mem_map.mpr ⟨p, hp, rfl⟩⟩
theorem inF_boxes {f : Form} (h : Wf f) (p : Pr) : inF f p ↔ inBoxes (boxesOf f) p := by
  unfold inF inBoxes
  constructor
  · intro hc
    obtain ⟨q, hq, h1⟩ := isCov_iff.mp hc
    rcases spansAt_in' (f := f) (x := p.1) with ⟨h2, _⟩ | ⟨t, ht, h2, h3⟩
    · rw [h2] at hq; cases hq
    · rw [h3] at hq
      exact ⟨_, mem_boxesOf.mpr ⟨t, ht, q, hq, rfl⟩, h2.1, h2.2, h1.1, h1.2⟩
  · rintro ⟨b, hb, hi⟩
    obtain ⟨s, hs, q, hq, rfl⟩ := mem_boxesOf.mp hb
    obtain ⟨h1, h2, h3, h4⟩ := hi
    rw [h.s.at hs ⟨h1, h2⟩]
    exact isCov_iff.mpr ⟨q, hq, h3, h4⟩
end BR
/-! BrY5: least lengths of forms. -/
namespace BR
/-! ### tables made by links -/
theorem nbrs_addTo {es : Tab} {p q k t : Pr} : t ∈ nbrs (addTo es p q) k ↔ t ∈ nbrs es k ∨ (k = p ∧ t = q ∧ p ∈ es.map (·.1)) := by
  induction es with
  | nil => simp [addTo, nbrs]
  | cons kv r ih =>
    have e : addTo (kv :: r) p q = (if kv.1 = p then (kv.1, kv.2 ++ [q]) else kv) :: addTo r p q := rfl
    rw [e]
    by_cases h1 : kv.1 = p
    · rw [if_pos h1]
      unfold nbrs
      dsimp only
      by_cases h2 : kv.1 = k
      · rw [if_pos h2, if_pos h2, List.mem_append, List.mem_singleton]
        constructor
        · rintro (h | h)
          · exact .inl h
          · exact .inr ⟨h2 ▸ h1, h, by simp [h1]⟩
        · rintro (h | ⟨_, h, _⟩)
          · exact .inl h
          · exact .inr h
      · rw [if_neg h2, if_neg h2, ih]
        constructor
        · rintro (h | ⟨h3, h4, h5⟩)
          · exact .inl h
          · exact .inr ⟨h3, h4, List.mem_cons_of_mem _ h5⟩
        · rintro (h | ⟨h3, h4, h5⟩)
          · exact .inl h
          · exact (h2 (h1.trans h3.symm)).elim
    · rw [if_neg h1]
      unfold nbrs
      by_cases h2 : kv.1 = k
      · rw [if_pos h2, if_pos h2]
        constructor
        · exact .inl
        · rintro (h | ⟨h3, _⟩)
          · exact h
          · exact (h1 (h2.trans h3)).elim
      · rw [if_neg h2, if_neg h2, ih]
        constructor
        · rintro (h | ⟨h3, h4, h5⟩)
          · exact .inl h
          · exact .inr ⟨h3, h4, List.mem_cons_of_mem _ h5⟩
        · rintro (h | ⟨h3, h4, h5⟩)
          · exact .inl h
          · refine .inr ⟨h3, h4, ?_⟩
            rcases List.mem_cons.mp h5 with h | h
            · exact (h1 h.symm).elim
            · exact h
theorem fold_nb {step : Tab → Pr × Pr → Tab} {ok : Pr × Pr → Prop} {K : List Pr} (hs : ∀ es pq, es.map (·.1) = K → ((ok pq ∧ pq.1 ∈ K ∧ pq.2 ∈ K) ∧ step es pq = addTo (addTo es pq.1 pq.2) pq.2 pq.1) ∨ (¬ ok pq ∧ step es pq = es)) :
    ∀ (l : List (Pr × Pr)) (es : Tab), es.map (·.1) = K → ∀ k t, t ∈ nbrs (l.foldl step es) k ↔ t ∈ nbrs es k ∨ ∃ pq ∈ l, ok pq ∧ ((k = pq.1 ∧ t = pq.2) ∨ (k = pq.2 ∧ t = pq.1))
  | [], es, _, k, t => by simp
  | pq :: l, es, hk, k, t => by
    rw [List.foldl_cons]
    rcases hs es pq hk with ⟨⟨h1, h2, h3⟩, e⟩ | ⟨h1, e⟩
    · rw [e, fold_nb hs l _ (by rw [addTo_keys, addTo_keys]; exact hk), nbrs_addTo, nbrs_addTo, addTo_keys, hk]
      constructor
      · rintro ((((h | ⟨a, b, _⟩)) | ⟨a, b, _⟩) | ⟨z, hz, h⟩)
        · exact .inl h
        · exact .inr ⟨pq, List.mem_cons_self, h1, .inl ⟨a, b⟩⟩
        · exact .inr ⟨pq, List.mem_cons_self, h1, .inr ⟨a, b⟩⟩
        · exact .inr ⟨z, List.mem_cons_of_mem _ hz, h⟩
      · rintro (h | ⟨z, hz, h⟩)
        · exact .inl (.inl (.inl h))
        · rcases List.mem_cons.mp hz with rfl | hz
          · rcases h.2 with ⟨a, b⟩ | ⟨a, b⟩
            · exact .inl (.inl (.inr ⟨a, b, h2⟩))
            · exact .inl (.inr ⟨a, b, h3⟩)
          · exact .inr ⟨z, hz, h⟩
    · rw [e, fold_nb hs l _ hk]
      constructor
      · rintro (h | ⟨z, hz, h⟩)
        · exact .inl h
        · exact .inr ⟨z, List.mem_cons_of_mem _ hz, h⟩
      · rintro (h | ⟨z, hz, h⟩)
        · exact .inl h
        · rcases List.mem_cons.mp hz with rfl | hz
          · exact (h1 h.1).elim
          · exact .inr ⟨z, hz, h⟩
theorem nbrs_empty {l : List Pr} {k : Pr} : nbrs (l.map fun k => (k, [])) k = [] := by
  induction l with
  | nil => rfl
  | cons a l ih =>
    rw [List.map_cons]
    unfold nbrs
    split
    · rfl
    · exact ih
/-! ### what is open -/
theorem SpnOk.holds {ss : List Pr} (h : SpnOk ss) {a b : Int} (hab : a < b) : holdsSp ss a b = true ↔ ∀ z, a ≤ z → z < b → isCov ss z = true := by
  unfold holdsSp
  rw [List.any_eq_true]
  constructor
  · rintro ⟨s, hs, h1⟩ z k1 k2
    rw [Bool.and_eq_true, decide_eq_true_iff, decide_eq_true_iff] at h1
    exact isCov_iff.mpr ⟨s, hs, by omega, by omega⟩
  · intro hc
    obtain ⟨s, hs, h1, h2⟩ := isCov_iff.mp (hc a (by omega) hab)
    refine ⟨s, hs, ?_⟩
    rw [Bool.and_eq_true, decide_eq_true_iff, decide_eq_true_iff]
    refine ⟨h1, ?_⟩
    refine Classical.byContradiction fun hn => ?_
    obtain ⟨t, ht, h3, h4⟩ := isCov_iff.mp (hc s.2 (by omega) (by omega))
    have : ∀ {l : List Pr}, l.Pairwise (fun p q => p.2 < q.1) → (∀ p ∈ l, p.1 < p.2) → s ∈ l → t ∈ l → s = t ∨ s.2 < t.1 ∨ t.2 < s.1 := by
      intro l
      induction l with
      | nil => intro _ _ h; cases h
      | cons u l ih =>
        intro hp hv h1 h2
        obtain ⟨k1, k2⟩ := List.pairwise_cons.mp hp
        rcases List.mem_cons.mp h1 with e | h1
        · rcases List.mem_cons.mp h2 with e' | h2
          · exact .inl (e.trans e'.symm)
          · have := k1 t h2
            rw [← e] at this
            exact .inr (.inl this)
        · rcases List.mem_cons.mp h2 with e' | h2
          · have := k1 s h1
            rw [← e'] at this
            exact .inr (.inr this)
          · exact ih k2 (fun p hp => hv p (List.mem_cons_of_mem _ hp)) h1 h2
    have vs := h.v s hs
    have vt := h.v t ht
    rcases this h.g h.v hs ht with e | e | e
    · subst e; omega
    · omega
    · omega
theorem SpnOk.hold1 {ss : List Pr} {a : Int} : holdsSp ss a (a + 1) = isCov ss a := by
  unfold holdsSp isCov
  congr 1
  funext s
  rw [Bool.eq_iff_iff, Bool.and_eq_true, decide_eq_true_iff, decide_eq_true_iff, decide_eq_true_iff]
  omega
theorem spans_later {f : Form} {s : Slab} {z : Int} (h : s.2.1 ≤ z) : spansAt (s :: f) z = spansAt f z := by
  rw [spansAt, if_neg (by omega)]
theorem spans_here {f : Form} {s : Slab} {z : Int} (h : s.1 ≤ z ∧ z < s.2.1) : spansAt (s :: f) z = s.2.2 := by
  rw [spansAt, if_pos h]
theorem openGo_iff {x2 y : Int} : ∀ {f : Form} {n : Int}, Srt f → ((∃ m, openGo x2 y f n = some m ∧ x2 < m) ↔ ∀ z, n ≤ z → z ≤ x2 → isCov (spansAt f z) y = true)
  | [], n, _ => by
    constructor
    · rintro ⟨m, h1, h2⟩ z h3 h4
      have : n = m := Option.some.inj h1
      omega
    · intro h
      refine ⟨n, rfl, ?_⟩
      refine Classical.byContradiction fun hn => ?_
      have := h n (Int.le_refl _) (by omega)
      cases this
  | s :: f, n, hs => by
    obtain ⟨k1, k2⟩ := List.pairwise_cons.mp hs.o
    have hv := hs.v s List.mem_cons_self
    have hf : Srt f := ⟨k2, fun t ht => hs.v t (List.mem_cons_of_mem _ ht)⟩
    have ih := fun n => openGo_iff (x2 := x2) (y := y) (f := f) (n := n) hf
    have e : openGo x2 y (s :: f) n = match openStep x2 y s n with
      | none => none
      | some m => openGo x2 y f m := rfl
    have low : ∀ z, z < s.2.1 → spansAt f z = [] := fun z hz => spansAt_none fun t ht h => by
      have := k1 t ht
      omega
    rw [e]
    unfold openStep
    by_cases hin : s.1 ≤ n ∧ n < s.2.1 ∧ n ≤ x2
    · rw [if_pos hin]
      by_cases hc : isCov s.2.2 y = true
      · rw [if_pos (by rw [SpnOk.hold1]; exact hc)]
        dsimp only
        rw [ih]
        constructor
        · intro h z h1 h2
          by_cases hz : z < s.2.1
          · rw [spans_here ⟨by omega, hz⟩]; exact hc
          · rw [spans_later (by omega)]; exact h z (by omega) h2
        · intro h z h1 h2
          have := h z (by omega) h2
          rwa [spans_later h1] at this
      · rw [if_neg (by rw [SpnOk.hold1]; exact hc)]
        dsimp only
        constructor
        · rintro ⟨m, h1, _⟩; cases h1
        · intro h
          have := h n (Int.le_refl _) hin.2.2
          rw [spans_here ⟨hin.1, hin.2.1⟩] at this
          exact (hc this).elim
    · rw [if_neg hin]
      dsimp only
      rw [ih]
      by_cases hx : n ≤ x2
      · by_cases hlo : n < s.1
        · constructor
          · intro h
            have := h n (Int.le_refl _) hx
            rw [low n (by omega)] at this
            cases this
          · intro h
            have := h n (Int.le_refl _) hx
            rw [spansAt, if_neg (by omega), low n (by omega)] at this
            cases this
        · have hge : s.2.1 ≤ n := by omega
          constructor
          · intro h z h1 h2
            rw [spans_later (by omega)]; exact h z h1 h2
          · intro h z h1 h2
            have := h z h1 h2
            rwa [spans_later (by omega)] at this
      · constructor
        · intro _ z h1 h2; omega
        · intro _ z h1 h2; omega
theorem seg_up {S : Pr → Prop} {x a b : Int} (hle : a ≤ b) : Seg S (x, a) (x, b) ↔ ∀ z, a ≤ z → z < b + 1 → S (x, z) := by
  constructor
  · intro hz z k1 k2
    exact hz (x, z) (.inl ⟨Int.le_refl x, Int.le_refl x⟩) (.inl ⟨k1, show z ≤ b by omega⟩)
  · rintro hz ⟨u, v⟩ k1 k2
    have hu : u = x := by unfold Btw at k1; dsimp only at k1; omega
    subst hu
    exact hz v (by unfold Btw at k2; dsimp only at k2; omega) (by unfold Btw at k2; dsimp only at k2; omega)
theorem seg_right {S : Pr → Prop} {y a b : Int} (hle : a ≤ b) : Seg S (a, y) (b, y) ↔ ∀ z, a ≤ z → z ≤ b → S (z, y) := by
  constructor
  · intro hz z k1 k2
    exact hz (z, y) (.inl ⟨k1, k2⟩) (.inl ⟨Int.le_refl y, Int.le_refl y⟩)
  · rintro hz ⟨u, v⟩ k1 k2
    have hu : v = y := by unfold Btw at k2; dsimp only at k2; omega
    subst hu
    exact hz u (by unfold Btw at k1; dsimp only at k1; omega) (by unfold Btw at k1; dsimp only at k1; omega)
theorem open_key {f : Form} (h : Wf f) {p q a b : Pr} (ea : minPr p q = a) (eb : maxPr p q = b) (he : a.1 = b.1 ∨ a.2 = b.2) (hle : a.1 < b.1 ∨ (a.1 = b.1 ∧ a.2 ≤ b.2)) : isOpen f p q = true ↔ Seg (inF f) a b := by
  unfold isOpen
  rw [ea, eb]
  obtain ⟨a1, a2⟩ := a
  obtain ⟨b1, b2⟩ := b
  clear ea eb p q
  dsimp only at he hle ⊢
  by_cases h1 : a1 = b1
  · subst h1
    rw [if_pos rfl]
    have hle : a2 ≤ b2 := by omega
    have e1 : mn2 a2 b2 = a2 := by unfold mn2; omega
    have e2 : mx2 a2 b2 = b2 := by unfold mx2; omega
    rw [e1, e2, (h.sp a1).holds (by omega), seg_up hle]
    rfl
  · rw [if_neg h1]
    have e2 : a2 = b2 := by omega
    subst e2
    rw [seg_right (by omega)]
    refine Iff.trans ?_ (openGo_iff (x2 := b1) (y := a2) (n := a1) h.s)
    cases openGo b1 a2 f a1 with
    | none => simp
    | some m => simp
theorem isOpen_iff {f : Form} (h : Wf f) {p q : Pr} (e : p.1 = q.1 ∨ p.2 = q.2) : isOpen f p q = true ↔ Seg (inF f) p q := by
  by_cases hl : ltPr' q p = true
  · have e1 : minPr p q = q := if_pos hl
    rw [ltP_iff] at hl
    have e2 : maxPr p q = p := by
      unfold maxPr
      rw [if_neg]
      rw [ltP_iff]
      omega
    rw [open_key h e1 e2 (by omega) (by omega)]
    exact ⟨Seg.symm, Seg.symm⟩
  · have e1 : minPr p q = p := if_neg hl
    rw [ltP_iff] at hl
    have e2 : maxPr p q = q := by
      unfold maxPr
      by_cases hk : ltPr' p q = true
      · rw [if_pos hk]
      · rw [if_neg hk]
        rw [ltP_iff] at hk
        exact Prod.ext (by omega) (by omega)
    exact open_key h e1 e2 e (by omega)
/-! ### the graph -/
theorem mem_adj {L : List Int} (h : L.Pairwise (· < ·)) {a b : Int} : (a, b) ∈ adj L ↔ a < b ∧ NbL L a b := by
  constructor
  · intro hm
    obtain ⟨h1, h2, h3, h4⟩ := adj_in h hm
    dsimp only at h1 h2 h3 h4
    exact ⟨h3, h1, h2, by omega, fun z hz => by have := h4 z hz; omega⟩
  · rintro ⟨hl, h1, h2, _, h3⟩
    obtain ⟨p, hp, k1, k2⟩ := adj_at h h1 h2 (Int.le_refl a) hl
    obtain ⟨j1, j2, j3, j4⟩ := adj_in h hp
    have := j4 a h1
    have := j4 b h2
    have := h3 _ j2
    have e : p = (a, b) := Prod.ext (by dsimp only; omega) (by dsimp only; omega)
    rw [← e]
    exact hp
theorem mem_up {cols rows : List Int} {pq : Pr × Pr} (hr : rows.Pairwise (· < ·)) : pq ∈ upPairs cols rows ↔ pq.1.1 = pq.2.1 ∧ pq.1.1 ∈ cols ∧ pq.1.2 < pq.2.2 ∧ NbL rows pq.1.2 pq.2.2 := by
  unfold upPairs
  rw [List.mem_flatMap]
  constructor
  · rintro ⟨x, hx, h⟩
    obtain ⟨ab, h1, rfl⟩ := List.mem_map.mp h
    obtain ⟨h2, h3⟩ := (mem_adj hr).mp h1
    exact ⟨rfl, hx, h2, h3⟩
  · rintro ⟨h1, h2, h3, h4⟩
    obtain ⟨⟨a, b⟩, ⟨c, d⟩⟩ := pq
    dsimp only at h1 h2 h3 h4
    subst h1
    exact ⟨a, h2, List.mem_map.mpr ⟨(b, d), (mem_adj hr).mpr ⟨h3, h4⟩, rfl⟩⟩
theorem mem_across {cols rows : List Int} {pq : Pr × Pr} (hc : cols.Pairwise (· < ·)) : pq ∈ acrossPairs cols rows ↔ pq.1.2 = pq.2.2 ∧ pq.1.2 ∈ rows ∧ pq.1.1 < pq.2.1 ∧ NbL cols pq.1.1 pq.2.1 := by
  unfold acrossPairs
  rw [List.mem_flatMap]
  constructor
  · rintro ⟨x, hx, h⟩
    obtain ⟨ab, h1, rfl⟩ := List.mem_map.mp h
    obtain ⟨h2, h3⟩ := (mem_adj hc).mp h1
    exact ⟨rfl, hx, h2, h3⟩
  · rintro ⟨h1, h2, h3, h4⟩
    obtain ⟨⟨a, b⟩, ⟨c, d⟩⟩ := pq
    dsimp only at h1 h2 h3 h4
    subst h1
    exact ⟨b, h2, List.mem_map.mpr ⟨(a, c), (mem_adj hc).mpr ⟨h3, h4⟩, rfl⟩⟩
theorem NbL.symm {C : List Int} {a b : Int} (h : NbL C a b) : NbL C b a := ⟨h.2.1, h.1, Ne.symm h.2.2.1, fun z hz => by have := h.2.2.2 z hz; omega⟩
theorem knot_iff {f : Form} {cols rows : List Int} {p : Pr} : p ∈ knots f cols rows ↔ p.1 ∈ cols ∧ p.2 ∈ rows ∧ inF f p := by
  rw [mem_knots, SpnOk.hold1]
  rfl
theorem links_nb {f : Form} (h : Wf f) {s g k t : Pr} : NbT (linksOf f s g) k t ↔ GE (inF f) (sortU (colsRaw f s g)) (sortU (rowsRaw f s g)) k t := by
  have hc : (sortU (colsRaw f s g)).Pairwise (· < ·) := sortU_pw
  have hr : (sortU (rowsRaw f s g)).Pairwise (· < ·) := sortU_pw
  unfold NbT linksOf
  dsimp only
  generalize sortU (colsRaw f s g) = cols at *
  generalize sortU (rowsRaw f s g) = rows at *
  have hk0 : ((knots f cols rows).map fun k => (k, ([] : List Pr))).map (·.1) = knots f cols rows := by rw [List.map_map]; exact List.map_id _
  rw [fold_nb (K := knots f cols rows) (ok := fun pq => (pq.1 ∈ knots f cols rows ∧ pq.2 ∈ knots f cols rows) ∧ isOpen f pq.1 pq.2 = true) (fun es pq hk => by
    unfold linkStep
    split
    · rename_i h1
      rw [Bool.and_eq_true, Bool.and_eq_true, inTab_iff, inTab_iff, hk] at h1
      exact .inl ⟨⟨⟨⟨h1.1, h1.2.1⟩, h1.2.2⟩, h1.1, h1.2.1⟩, rfl⟩
    · rename_i h1
      rw [Bool.and_eq_true, Bool.and_eq_true, inTab_iff, inTab_iff, hk] at h1
      exact .inr ⟨fun h2 => h1 ⟨h2.1.1, h2.1.2, h2.2⟩, rfl⟩) _ _ hk0, nbrs_empty]
  constructor
  · rintro (h0 | ⟨pq, hm, ⟨_, ho⟩, hkt⟩)
    · cases h0
    · rcases List.mem_append.mp hm with hm | hm
      · obtain ⟨a1, a2, a3, a4⟩ := (mem_up hr).mp hm
        rw [isOpen_iff h (.inl a1)] at ho
        rcases hkt with ⟨rfl, rfl⟩ | ⟨rfl, rfl⟩
        · exact ⟨.inr ⟨a1, a2, a4⟩, ho⟩
        · exact ⟨.inr ⟨a1.symm, a1 ▸ a2, a4.symm⟩, ho.symm⟩
      · obtain ⟨a1, a2, a3, a4⟩ := (mem_across hc).mp hm
        rw [isOpen_iff h (.inr a1)] at ho
        rcases hkt with ⟨rfl, rfl⟩ | ⟨rfl, rfl⟩
        · exact ⟨.inl ⟨a1, a2, a4⟩, ho⟩
        · exact ⟨.inl ⟨a1.symm, a1 ▸ a2, a4.symm⟩, ho.symm⟩
  · rintro ⟨hg, hs⟩
    refine .inr ?_
    have hk : inF f k := hs k (by unfold Btw; omega) (by unfold Btw; omega)
    have ht : inF f t := hs t (by unfold Btw; omega) (by unfold Btw; omega)
    rcases hg with ⟨a1, a2, a3⟩ | ⟨a1, a2, a3⟩
    · have kk : k ∈ knots f cols rows := knot_iff.mpr ⟨a3.1, a2, hk⟩
      have kt : t ∈ knots f cols rows := knot_iff.mpr ⟨a3.2.1, a1 ▸ a2, ht⟩
      by_cases hl : k.1 < t.1
      · exact ⟨(k, t), List.mem_append_right _ ((mem_across hc).mpr ⟨a1, a2, hl, a3⟩), ⟨⟨kk, kt⟩, (isOpen_iff h (.inr a1)).mpr hs⟩, .inl ⟨rfl, rfl⟩⟩
      · have := a3.2.2.1
        exact ⟨(t, k), List.mem_append_right _ ((mem_across hc).mpr ⟨a1.symm, a1 ▸ a2, by dsimp only; omega, a3.symm⟩), ⟨⟨kt, kk⟩, (isOpen_iff h (.inr a1.symm)).mpr hs.symm⟩, .inr ⟨rfl, rfl⟩⟩
    · have kk : k ∈ knots f cols rows := knot_iff.mpr ⟨a2, a3.1, hk⟩
      have kt : t ∈ knots f cols rows := knot_iff.mpr ⟨a1 ▸ a2, a3.2.1, ht⟩
      by_cases hl : k.2 < t.2
      · exact ⟨(k, t), List.mem_append_left _ ((mem_up hr).mpr ⟨a1, a2, hl, a3⟩), ⟨⟨kk, kt⟩, (isOpen_iff h (.inl a1)).mpr hs⟩, .inl ⟨rfl, rfl⟩⟩
      · have := a3.2.2.1
        exact ⟨(t, k), List.mem_append_left _ ((mem_up hr).mpr ⟨a1.symm, a1 ▸ a2, by dsimp only; omega, a3.symm⟩), ⟨⟨kt, kk⟩, (isOpen_iff h (.inl a1.symm)).mpr hs.symm⟩, .inr ⟨rfl, rfl⟩⟩
theorem mem_cols {f : Form} {s g : Pr} {z : Int} : z ∈ sortU (colsRaw f s g) ↔ z = s.1 ∨ z = g.1 ∨ ∃ u ∈ f, z = u.1 ∨ z = u.2.1 - 1 := by
  rw [mem_sortU]
  unfold colsRaw
  rw [List.mem_append, List.mem_flatMap]
  simp only [List.mem_cons, List.not_mem_nil, or_false, or_assoc]
theorem mem_rows {f : Form} {s g : Pr} {z : Int} : z ∈ sortU (rowsRaw f s g) ↔ z = s.2 ∨ z = g.2 ∨ ∃ u ∈ f, ∃ r ∈ u.2.2, z = r.1 ∨ z = r.2 - 1 := by
  rw [mem_sortU]
  unfold rowsRaw highs
  rw [List.mem_append, List.mem_flatMap]
  simp only [List.mem_cons, List.not_mem_nil, or_false, or_assoc, List.mem_flatMap]
theorem form_len {f : Form} (h : Wf f) {s g : Pr} (hs : inF f s) : IsLen (inF f) s g ((foundOf (linksOf f s g) s g).map (·.1)) := by
  have L : Lines (inBoxes (boxesOf f)) (sortU (colsRaw f s g)) (sortU (rowsRaw f s g)) := lines_boxes fun b hb => by
    obtain ⟨u, hu, r, hr, rfl⟩ := mem_boxesOf.mp hb
    exact ⟨mem_cols.mpr (.inr (.inr ⟨u, hu, .inl rfl⟩)), mem_cols.mpr (.inr (.inr ⟨u, hu, .inr rfl⟩)), mem_rows.mpr (.inr (.inr ⟨u, hu, r, hr, .inl rfl⟩)), mem_rows.mpr (.inr (.inr ⟨u, hu, r, hr, .inr rfl⟩))⟩
  have eS : inBoxes (boxesOf f) = inF f := funext fun p => propext (inF_boxes h p).symm
  rw [eS] at L
  exact glen_len L (fun p q => links_nb h) hs (mem_cols.mpr (.inl rfl)) (mem_rows.mpr (.inl rfl)) (mem_cols.mpr (.inr (.inl rfl))) (mem_rows.mpr (.inr (.inl rfl))) (found_len _ _ _)
theorem start_in {f : Form} {s g : Pr} (hs : inF f s) : s ∈ (linksOf f s g).map (·.1) := by
  rw [links_keys]
  exact knot_iff.mpr ⟨mem_cols.mpr (.inl rfl), mem_rows.mpr (.inl rfl), hs⟩
theorem way_len {f : Form} (h : Wf f) {s g : Pr} (hs : inF f s) : IsLen (inF f) s g (wayLen f false s g) := form_len h hs
end BR
/-! BrY7: groups of linked boxes are the parts. -/
namespace BR
theorem linked_symm (a b : Box) : linked a b = linked b a := by
  unfold linked
  have h1 : maxI a.2.1 b.2.1 = maxI b.2.1 a.2.1 := by unfold maxI; omega
  have h2 : minI a.2.2.2 b.2.2.2 = minI b.2.2.2 a.2.2.2 := by unfold minI; omega
  rw [h1, h2, Bool.or_comm]
theorem linked_iff {a b : Box} : linked a b = true ↔ (a.2.2.1 = b.1 ∨ b.2.2.1 = a.1) ∧ ∃ y, (a.2.1 ≤ y ∧ y < a.2.2.2) ∧ b.2.1 ≤ y ∧ y < b.2.2.2 := by
  unfold linked
  rw [Bool.and_eq_true, Bool.or_eq_true, decide_eq_true_iff, decide_eq_true_iff, decide_eq_true_iff]
  constructor
  · rintro ⟨h1, h2⟩
    refine ⟨h1, maxI a.2.1 b.2.1, ?_⟩
    unfold maxI minI at *
    omega
  · rintro ⟨h1, y, h2⟩
    refine ⟨h1, ?_⟩
    unfold maxI minI
    omega
structure GrowS (g l g' l' : List Box) : Prop where
  cl : ∀ b ∈ g', ∀ c ∈ l', linked b c = false
  mem : ∀ c, (c ∈ g' ∨ c ∈ l') ↔ (c ∈ g ∨ c ∈ l)
  sub : ∀ c ∈ l', c ∈ l
  g0 : ∀ c ∈ g, c ∈ g'
  q : ∀ Q : Box → Prop, (∀ b ∈ g, Q b) → (∀ b c, Q b → c ∈ l → linked b c = true → Q c) → ∀ b ∈ g', Q b
theorem growG_spec : ∀ (n : Nat) (g l : List Box) (k : Nat), g.length + l.length ≤ n + k → (∀ i b, i < k → g[i]? = some b → ∀ c ∈ l, linked b c = false) → GrowS g l (growG n g l k).1 (growG n g l k).2
  | n, g, l, k, hn, hk => by
    have base : g.length ≤ k → GrowS g l g l := fun hle => ⟨fun b hb c hc => by
        obtain ⟨i, hi⟩ := List.mem_iff_getElem?.mp hb
        exact hk i b (by have := (List.getElem?_eq_some_iff.mp hi).1; omega) hi c hc, fun c => Iff.rfl, fun c h => h, fun c h => h, fun Q h _ => h⟩
    cases n with
    | zero => exact base (by omega)
    | succ n =>
      unfold growG
      cases h : g[k]? with
      | none => exact base (by have := List.getElem?_eq_none_iff.mp h; omega)
      | some b =>
        dsimp only
        have hl := filter_two (linked b) l
        have hkl := (List.getElem?_eq_some_iff.mp h).1
        have ih := growG_spec n (g ++ l.filter (linked b)) (l.filter fun c => !linked b c) (k + 1) (by rw [List.length_append]; omega) (fun i a hi ha c hc => by
          rw [List.getElem?_append_left (by omega)] at ha
          obtain ⟨h1, h2⟩ := List.mem_filter.mp hc
          by_cases e : i = k
          · subst e
            rw [h] at ha
            obtain rfl := Option.some.inj ha
            exact Bool.not_eq_true' _ ▸ h2
          · exact hk i a (by omega) ha c h1)
        refine ⟨ih.cl, fun c => ?_, fun c hc => (List.mem_filter.mp (ih.sub c hc)).1, fun c hc => ih.g0 c (List.mem_append_left _ hc), fun Q q0 q1 => ih.q Q (fun a ha => ?_) fun a c qa hc hl => q1 a c qa (List.mem_filter.mp hc).1 hl⟩
        · rw [ih.mem, List.mem_append, List.mem_filter, List.mem_filter]
          cases linked b c <;> simp
        · rcases List.mem_append.mp ha with ha | ha
          · exact q0 a ha
          · obtain ⟨h1, h2⟩ := List.mem_filter.mp ha
            exact q1 b a (q0 b (List.mem_of_getElem? h)) h1 h2
/-- a part of l -/
structure IsGrp (l h : List Box) : Prop where
  sub : ∀ b ∈ h, b ∈ l
  cl : ∀ b ∈ h, ∀ c ∈ l, linked b c = true → c ∈ h
  q : ∃ b0 ∈ h, ∀ Q : Box → Prop, Q b0 → (∀ b c, Q b → c ∈ l → linked b c = true → Q c) → ∀ b ∈ h, Q b
  len : h.length ≤ l.length
theorem goG_spec : ∀ (n : Nat) (l : List Box) (found : List (List Box)), l.length ≤ n → (∀ h ∈ goG n l found, h ∈ found ∨ IsGrp l h) ∧ (∀ h ∈ found, h ∈ goG n l found) ∧ ∀ b ∈ l, ∃ h ∈ goG n l found, b ∈ h
  | 0, l, found, hn => by
    have : l = [] := List.length_eq_zero_iff.mp (by omega)
    subst this
    exact ⟨fun h hh => .inl hh, fun h hh => hh, fun b hb => by cases hb⟩
  | n + 1, [], found, hn => ⟨fun h hh => .inl hh, fun h hh => hh, fun b hb => by cases hb⟩
  | n + 1, b :: r, found, hn => by
    have g := growG_spec (r.length + 1) [b] r 0 (by rw [List.length_singleton]; omega) fun i a hi => by omega
    have gl := growG_len (r.length + 1) [b] r 0
    unfold goG
    generalize (growG (r.length + 1) [b] r 0).1 = g' at *
    generalize (growG (r.length + 1) [b] r 0).2 = l' at *
    rw [List.length_cons] at hn
    rw [List.length_singleton] at gl
    obtain ⟨i1, i2, i3⟩ := goG_spec n l' (found ++ [g']) (by omega)
    have hmem : ∀ c, (c ∈ g' ∨ c ∈ l') ↔ c ∈ b :: r := fun c => by rw [g.mem, List.mem_singleton, List.mem_cons]
    refine ⟨fun h hh => ?_, fun h hh => i2 h (List.mem_append_left _ hh), fun c hc => ?_⟩
    · rcases i1 h hh with h1 | h1
      · rcases List.mem_append.mp h1 with h1 | h1
        · exact .inl h1
        · rw [List.mem_singleton] at h1
          subst h1
          refine .inr ⟨fun c hc => (hmem c).mp (.inl hc), fun a ha c hc hl => ?_, ⟨b, g.g0 b (by simp), fun Q q0 q1 => g.q Q (fun a ha => by rw [List.mem_singleton.mp ha]; exact q0) fun a c qa hc hl => q1 a c qa (List.mem_cons_of_mem _ hc) hl⟩, by rw [List.length_cons]; omega⟩
          rcases (hmem c).mpr hc with h2 | h2
          · exact h2
          · rw [g.cl a ha c h2] at hl; cases hl
      · refine .inr ⟨fun c hc => (hmem c).mp (.inr (h1.sub c hc)), fun a ha c hc hl => ?_, ?_, by have := h1.len; rw [List.length_cons]; omega⟩
        · rcases (hmem c).mpr hc with h2 | h2
          · rw [linked_symm, g.cl c h2 a (h1.sub a ha)] at hl; cases hl
          · exact h1.cl a ha c h2 hl
        · obtain ⟨b0, k1, k2⟩ := h1.q
          exact ⟨b0, k1, fun Q q0 q1 => k2 Q q0 fun a c qa hc hl => q1 a c qa ((hmem c).mp (.inr hc)) hl⟩
    · rcases (hmem c).mpr hc with h2 | h2
      · exact ⟨g', i2 g' (by simp), h2⟩
      · exact i3 c h2
theorem groups_spec (bs : List Box) : (∀ h ∈ groupsOf bs, IsGrp bs h) ∧ ∀ b ∈ bs, ∃ h ∈ groupsOf bs, b ∈ h := by
  obtain ⟨h1, _, h3⟩ := goG_spec bs.length bs [] (Nat.le_refl _)
  refine ⟨fun h hh => ?_, h3⟩
  rcases h1 h hh with h2 | h2
  · cases h2
  · exact h2
/-! ### parts are joined -/
theorem box_seg {S : Pr → Prop} {b : Box} (hb : ∀ p, inBox b p → S p) {p q : Pr} (hp : inBox b p) (hq : inBox b q) : ∃ n, Way S p n q := by
  have h1 : Seg S p (p.1, q.2) := fun z z1 z2 => hb z (by unfold inBox Btw at *; dsimp only at *; omega)
  have h2 : Seg S (p.1, q.2) q := fun z z1 z2 => hb z (by unfold inBox Btw at *; dsimp only at *; omega)
  exact ⟨_, (way_seg h1 (.inl rfl)).trans (way_seg h2 (.inr rfl))⟩
def Joined (S : Pr → Prop) (b c : Box) : Prop := ∀ p q, inBox b p → inBox c q → ∃ n, Way S p n q
theorem linked_way {S : Pr → Prop} {b c : Box} (hb : ∀ p, inBox b p → S p) (hc : ∀ p, inBox c p → S p) (vb : b.1 < b.2.2.1) (vc : c.1 < c.2.2.1) (h : linked b c = true) : ∃ p q n, inBox b p ∧ inBox c q ∧ Way S p n q := by
  obtain ⟨h1, y, h2, h3⟩ := linked_iff.mp h
  rcases h1 with h1 | h1
  · have i1 : inBox b (b.2.2.1 - 1, y) := by unfold inBox; dsimp only; omega
    have i2 : inBox c (c.1, y) := by unfold inBox; dsimp only; omega
    exact ⟨_, _, 1, i1, i2, .one (hb _ i1) (hc _ i2) (by unfold Adj; dsimp only; omega)⟩
  · have i1 : inBox b (b.1, y) := by unfold inBox; dsimp only; omega
    have i2 : inBox c (c.2.2.1 - 1, y) := by unfold inBox; dsimp only; omega
    exact ⟨_, _, 1, i1, i2, .one (hb _ i1) (hc _ i2) (by unfold Adj; dsimp only; omega)⟩
section
variable {f : Form}
theorem form_box (h : Wf f) {b : Box} (hb : b ∈ boxesOf f) : b.1 < b.2.2.1 ∧ b.2.1 < b.2.2.2 ∧ ∀ p, inBox b p → inF f p := by
  obtain ⟨s, hs, r, hr, rfl⟩ := mem_boxesOf.mp hb
  exact ⟨h.s.v s hs, (h.p s hs).v r hr, fun p hp => (inF_boxes h p).mpr ⟨_, mem_boxesOf.mpr ⟨s, hs, r, hr, rfl⟩, hp⟩⟩
theorem grp_joined (h : Wf f) {g : List Box} (hg : IsGrp (boxesOf f) g) {p q : Pr} (hp : inBoxes g p) (hq : inBoxes g q) : ∃ n, Way (inF f) p n q := by
  obtain ⟨b0, h0, hQ⟩ := hg.q
  have all : ∀ b ∈ g, b ∈ boxesOf f ∧ Joined (inF f) b0 b := hQ (fun b => b ∈ boxesOf f ∧ Joined (inF f) b0 b) ⟨hg.sub b0 h0, fun p q hp hq => box_seg (form_box h (hg.sub b0 h0)).2.2 hp hq⟩ fun b c ⟨hb, jb⟩ hc hl => by
    obtain ⟨v1, _, s1⟩ := form_box h hb
    obtain ⟨v2, _, s2⟩ := form_box h hc
    refine ⟨hc, fun p q hp hq => ?_⟩
    obtain ⟨x, y, n, hx, hy, w⟩ := linked_way s1 s2 v1 v2 hl
    obtain ⟨m, w1⟩ := jb p x hp hx
    obtain ⟨k, w2⟩ := box_seg s2 hy hq
    exact ⟨_, (w1.trans w).trans w2⟩
  obtain ⟨b, hb, hpb⟩ := hp
  obtain ⟨c, hc, hqc⟩ := hq
  obtain ⟨v, v', s0⟩ := form_box h (hg.sub b0 h0)
  have i0 : inBox b0 (b0.1, b0.2.1) := by unfold inBox; dsimp only; omega
  obtain ⟨n, w1⟩ := (all b hb).2 _ p i0 hpb
  obtain ⟨m, w2⟩ := (all c hc).2 _ q i0 hqc
  exact ⟨_, w1.symm.trans w2⟩
theorem SpnOk.one {ss : List Pr} (h : SpnOk ss) {s t : Pr} (hs : s ∈ ss) (ht : t ∈ ss) : s = t ∨ s.2 < t.1 ∨ t.2 < s.1 := by
  have : ∀ {l : List Pr}, l.Pairwise (fun p q => p.2 < q.1) → s ∈ l → t ∈ l → s = t ∨ s.2 < t.1 ∨ t.2 < s.1 := by
    intro l
    induction l with
    | nil => intro _ h; cases h
    | cons u l ih =>
      intro hp h1 h2
      obtain ⟨k1, k2⟩ := List.pairwise_cons.mp hp
      rcases List.mem_cons.mp h1 with e | h1
      · rcases List.mem_cons.mp h2 with e' | h2
        · exact .inl (e.trans e'.symm)
        · have := k1 t h2
          rw [← e] at this
          exact .inr (.inl this)
      · rcases List.mem_cons.mp h2 with e' | h2
        · have := k1 s h1
          rw [← e'] at this
          exact .inr (.inr this)
        · exact ih k2 h1 h2
  exact this h.g hs ht
theorem Srt.two {f : Form} (h : Srt f) {s t : Slab} (hs : s ∈ f) (ht : t ∈ f) : s = t ∨ s.2.1 ≤ t.1 ∨ t.2.1 ≤ s.1 := by
  have : ∀ {l : Form}, l.Pairwise (fun s t => s.2.1 ≤ t.1) → s ∈ l → t ∈ l → s = t ∨ s.2.1 ≤ t.1 ∨ t.2.1 ≤ s.1 := by
    intro l
    induction l with
    | nil => intro _ h; cases h
    | cons u l ih =>
      intro hp h1 h2
      obtain ⟨k1, k2⟩ := List.pairwise_cons.mp hp
      rcases List.mem_cons.mp h1 with e | h1
      · rcases List.mem_cons.mp h2 with e' | h2
        · exact .inl (e.trans e'.symm)
        · have := k1 t h2
          rw [← e] at this
          exact .inr (.inl this)
      · rcases List.mem_cons.mp h2 with e' | h2
        · have := k1 s h1
          rw [← e'] at this
          exact .inr (.inr this)
        · exact ih k2 h1 h2
  exact this h.o hs ht
theorem adj_linked (h : Wf f) {b c : Box} (hb : b ∈ boxesOf f) (hc : c ∈ boxesOf f) {p q : Pr} (hp : inBox b p) (hq : inBox c q) (a : Adj p q) : b = c ∨ linked b c = true := by
  obtain ⟨s, hs, r, hr, rfl⟩ := mem_boxesOf.mp hb
  obtain ⟨t, ht, u, hu, rfl⟩ := mem_boxesOf.mp hc
  unfold inBox at hp hq
  unfold Adj at a
  dsimp only at hp hq
  rcases h.s.two hs ht with e | e | e
  · subst e
    refine .inl ?_
    rcases (h.p s hs).one hr hu with e | e | e
    · rw [e]
    · omega
    · omega
  · refine .inr (linked_iff.mpr ⟨.inl ?_, p.2, ?_⟩)
    · dsimp only; omega
    · dsimp only; omega
  · refine .inr (linked_iff.mpr ⟨.inr ?_, p.2, ?_⟩)
    · dsimp only; omega
    · dsimp only; omega
theorem grp_way (h : Wf f) {g : List Box} (hg : IsGrp (boxesOf f) g) {p q : Pr} {n : Int} (hp : inBoxes g p) (w : Way (inF f) p n q) : inBoxes g q := by
  induction w with
  | zero _ => exact hp
  | snoc w a hq ih =>
    obtain ⟨b, hb, hbp⟩ := ih
    obtain ⟨c, hc, hcq⟩ := (inF_boxes h _).mp hq
    rcases adj_linked h (hg.sub b hb) hc hbp hcq a with e | e
    · exact ⟨b, hb, e ▸ hcq⟩
    · exact ⟨c, hg.cl b hb c hc e, hcq⟩
theorem grp_form (h : Wf f) {g : List Box} (hg : IsGrp (boxesOf f) g) (p : Pr) : inF (slabsOf g) p ↔ inBoxes g p := (slabsOf_ok fun b hb => (form_box h (hg.sub b hb)).2.1).2.1 p
end
end BR
/-! BrC: comprehensions of any number of clauses, a list or a set of ints. -/
namespace BR
open PySem PySem.Spec PyProof.Rows L2

section
variable {prog : Program} {w : World} {A : Around} {R : Result → Shared → Prop} {s : Shared}
/-- what a turn does at the clause behind its own: the next clause's loop, or the element laid down -/
def deeper (e : Expr) (gens : List Comprehension) (emit : Sem Unit) (k : Nat) (acc : Value) (env : Env) (fin : Sem PySem.Fin) : Sem PySem.Fin :=
  match gens[k]? with
  | some g' => do
    let x ← eval g'.iter env
    standAt g'.iter.pos
    let x ← if g'.is_async != 0 then foldedIterable g'.iter x else foldedSetIterable g'.iter env x
    let _ ← runOwn (.compStart e k (← holding [x] (if g'.is_async != 0 then asyncIter x else pyIter x)) acc env) env
    fin
  | none => do
    emit
    fin
theorem compTurn_L {elt tg iter : Expr} {ifs : List Expr} {gens : List Comprehension} {scope : Scope} {pos : Pos} {k : Nat} (it acc : Value) (env : Env) (hk : gens[k]? = some ⟨tg, iter, ifs, 0⟩) :
    compTurn (.ListComp elt gens scope pos) k it acc env = (do
      standAt iter.pos
      match ← pyNext it with
      | none => pure (.done .next)
      | some v =>
        letOwnedTupleGo tg it v
        assign tg env v
        let mut ok := true
        for c in ifs do
          if ok then ok ← isTrue c env (eval c env)
        if ok then
          deeper (.ListComp elt gens scope pos) gens (do let _ ← call (.builtin "list.append") [acc, ← eval elt env]) (k + 1) acc env (again (.compLoop (.ListComp elt gens scope pos) k it acc env))
        else again (.compLoop (.ListComp elt gens scope pos) k it acc env)) := by
  unfold compTurn deeper
  dsimp only
  rw [hk]
  rfl
theorem compTurn_S {elt tg iter : Expr} {ifs : List Expr} {gens : List Comprehension} {scope : Scope} {pos : Pos} {k : Nat} (it acc : Value) (env : Env) (hk : gens[k]? = some ⟨tg, iter, ifs, 0⟩) :
    compTurn (.SetComp elt gens scope pos) k it acc env = (do
      standAt iter.pos
      match ← pyNext it with
      | none => pure (.done .next)
      | some v =>
        letOwnedTupleGo tg it v
        assign tg env v
        let mut ok := true
        for c in ifs do
          if ok then ok ← isTrue c env (eval c env)
        if ok then
          deeper (.SetComp elt gens scope pos) gens (do let v ← eval elt env; standAt elt.pos; let _ ← call (.builtin "set.add") [acc, v]) (k + 1) acc env (again (.compLoop (.SetComp elt gens scope pos) k it acc env))
        else again (.compLoop (.SetComp elt gens scope pos) k it acc env)) := by
  unfold compTurn deeper
  dsimp only
  rw [hk]
  rfl
end
/-- a block's clause: from the slots and the heap what is wanted of the heap behind it -/
abbrev TB := L2.St → Hp → (Hp → Prop) → Prop
/-- what a turn does behind its own clause, by its reading; vs: the names that it stores -/
structure Lev (Y : Cx) (T : Sem PySem.Fin → Sem PySem.Fin) (vs : List Nat) (tB : TB) : Prop where
  run : ∀ (pins : List (Addr × Obj)) (s : Shared) (σ : L2.St) (H : Hp) (Nx : Hp → Prop) (fin : Sem PySem.Fin) (Qf : PySem.Fin → Shared → Prop) (E : Value → Shared → Prop), Inv Y pins σ H s → tB σ H Nx →
    (∀ σ' H' s', Inv Y pins σ' H' s' → σ'.length = σ.length → (∀ (j : Nat) v, (wipe σ vs)[j]? = some (some v) → σ'[j]? = some (some v)) → Nx H' → wpAny (model Y.prog Y.w) Y.A fin Qf E s') → wpAny (model Y.prog Y.w) Y.A (T fin) Qf E s
/-- for tg in iter if ..: tB -/
def tClause (wi : TI) (g : TG) (tt : TT) (vs : List Nat) (tB : TB) : TB := fun σ H Nx => wi σ H fun J H1 => ∃ W : Nat → Nat → Hp → Prop, (∃ m, W 0 m H1) ∧ ∀ j m H, W j m H →
  (J.stop j H ∧ Nx H) ∨ (J.go j H ∧ ∃ Nx1 : Hp → Prop, (∀ H', Nx1 H' → ∃ m', m' < m ∧ W (j + 1) m' H') ∧ ∀ x H', J.yld j H x H' → g x (wipe σ vs) H' fun σ3 H5 => wipe σ3 vs = wipe σ vs ∧ tt σ3 H5 fun b H6 => if b = true then tB σ3 H6 Nx1 else Nx1 H6)
/-- the whole: D the new list or set -/
def tComp (new : Addr → HO) (wi : TI) (g : TG) (tt : TT) (tB : Addr → TB) (vs : List Nat) : TE := fun σ H Q => wi σ H fun J H1 => ∀ D, H1 D = none → ∃ W : Nat → Nat → Hp → Prop, (∃ m, W 0 m (upd H1 D (new D))) ∧ ∀ j m H, W j m H →
  (J.stop j H ∧ Q (.ref D) H) ∨ (J.go j H ∧ ∃ Nx1 : Hp → Prop, (∀ H', Nx1 H' → ∃ m', m' < m ∧ W (j + 1) m' H') ∧ ∀ x H', J.yld j H x H' → g x (wipe σ vs) H' fun σ3 H5 => wipe σ3 vs = wipe σ vs ∧ tt σ3 H5 fun b H6 => if b = true then tB D σ3 H6 Nx1 else Nx1 H6)

/-! ### lists -/
section
variable {prog : Program} {w : World} {A : Around} {R : Result → Shared → Prop} {s : Shared} {elt tg iter : Expr} {ifs : List Expr} {gens : List Comprehension} {scope : Scope} {pos : Pos} {k : Nat} {it acc : Value} {env : Env}
theorem loop_L (hk : gens[k]? = some ⟨tg, iter, ifs, 0⟩) (I : Nat → Shared → Prop)
    (turn : ∀ n s, I n s → wpAny (model prog w) A (pyNext it) (fun r s₁ => match r with
      | none => R (.ok .next) s₁
      | some v => wpAny (model prog w) A (letOwnedTupleGo tg it v) (fun _ s₁' => wpAny (model prog w) A (assign tg env v) (fun _ s₂ =>
          wpAny (model prog w) A (forIn ifs true fun c r => if r = true then do let ok ← isTrue c env (eval c env); pure (ForInStep.yield ok) else pure (ForInStep.yield r)) (fun ok s₃ =>
            if ok = true then wpAny (model prog w) A (deeper (.ListComp elt gens scope pos) gens (do let _ ← call (.builtin "list.append") [acc, ← eval elt env]) (k + 1) acc env (again (.compLoop (.ListComp elt gens scope pos) k it acc env)))
              (fun fin s' => match fin with | .done f => R (.ok f) s' | .again c' => c' = .compLoop (.ListComp elt gens scope pos) k it acc env ∧ ∃ m, m < n ∧ I m s') (notedBy (model prog w) A env fun e s' => R (.error e) s') s₃
            else ∃ m, m < n ∧ I m s₃) (notedBy (model prog w) A env fun e s' => R (.error e) s') s₂) (notedBy (model prog w) A env fun e s' => R (.error e) s') s₁') (notedBy (model prog w) A env fun e s' => R (.error e) s') s₁) (notedBy (model prog w) A env fun e s' => R (.error e) s') s)
    (n : Nat) (h : I n s) : codeAny (model prog w) A (.compLoop (.ListComp elt gens scope pos) k it acc env) R s := by
  refine codeAny_loop rfl I (fun n s hI => ?_) n h
  show wpAny _ A ((compTurn (.ListComp elt gens scope pos) k it acc env).onRaise (fun x => do noteFrame x env; theTreesLotGoes x)) _ _ s
  refine wpAny_noted ?_
  rw [compTurn_L it acc env hk]
  refine wpAny_bind (wpAny_standAt (wpAny_bind (wpAny_mono (turn n s hI) (fun r s₁ h₁ => ?_) fun _ _ h' => h')))
  cases r with
  | none => exact wpAny_pure h₁
  | some v =>
    refine wpAny_bind (wpAny_mono h₁ (fun _ s₁' h₁' => ?_) fun _ _ h' => h')
    refine wpAny_bind (wpAny_mono h₁' (fun _ s₂ h₂ => wpAny_bind (wpAny_mono h₂ (fun ok s₃ h₃ => ?_) fun _ _ h' => h')) fun _ _ h' => h')
    cases ok with
    | false => exact wpAny_pure ⟨rfl, h₃⟩
    | true => exact h₃
theorem start_L (hk : gens[k]? = some ⟨tg, iter, ifs, 0⟩)
    (h0 : codeAny (model prog w) A (.compLoop (.ListComp elt gens scope pos) k it acc env) R s)
    (h : wpAny (model prog w) A (pyIter it) (fun it' s' => codeAny (model prog w) A (.compLoop (.ListComp elt gens scope pos) k it' acc env) R s')
      (notedBy (model prog w) A env fun x s' => R (.error x) s') s) :
    codeAny (model prog w) A (.compStart (.ListComp elt gens scope pos) k it acc env) R s := by
  refine codeAny_of_tree ?_
  show wpAny _ _ ((compStart (.ListComp elt gens scope pos) k it acc env).onRaise (fun x => do noteFrame x env; standAt theWindowsPlace)) _ _ s
  refine wpAny_notedAt ?_
  unfold compStart
  have hcl : (clausesOf (.ListComp elt gens scope pos))[k]? = some ⟨tg, iter, ifs, 0⟩ := hk
  rw [hcl]
  show wpAny _ _ (ask >>= _) _ _ s
  refine wpAny_bind (wpAny_askSetting (wpAny_ite ?_))
  split
  · first
      | exact wpAny_bind (wpAny_pure (wpAny_pure (And.intro rfl h0)))
      | exact wpAny_pure (And.intro rfl h0)
  · first
      | exact wpAny_bind (wpAny_rule (wpAny_bind (wpAny_standAt (wpAny_bind (wpAny_mono h (fun it' s' h' => wpAny_pure (And.intro rfl h')) fun _ _ x => x)))))
      | (refine wpAny_bind (wpAny_rule ?_); show wpAny _ _ (standAt iter.pos >>= _) _ _ s; exact wpAny_bind (wpAny_standAt (wpAny_bind (wpAny_mono h (fun it' s' h' => wpAny_pure (And.intro rfl h')) fun _ _ x => x))))
end
section
variable {Y : Cx} {elt tg iter : Expr} {ifs : List Expr} {gens : List Comprehension} {scope : Scope} {pos : Pos} {k : Nat} {D : Addr}
/-- the loop of clause k, its iterator at hand -/
theorem cloop_L {pins : List (Addr × Obj)} {s : Shared} {σ : L2.St} {H : Hp} {vs vs' : List Nat} {J : It} {fp : List Addr} {ita : Addr} {tn : Nat → Heap → Prop} {g : TG} {tt : TT} {tB : TB} {Nx : Hp → Prop} {R : Result → Shared → Prop} {W : Nat → Nat → Hp → Prop} {m0 : Nat}
    (hk : gens[k]? = some ⟨tg, iter, ifs, 0⟩) (hc : Y.calm = true) (hxe : Y.xe = fun _ _ => False) (T : Turn Y.prog Y.w Y.K tg J fp ita tn) (st : tn 0 s.heap) (f : ∀ b ∈ fp, FpOk Y pins H b) (I : Inv Y pins (wipe σ vs) H s)
    (hg : PG Y tg g) (ht : PTs Y ifs tt) (hv : ∀ i ∈ vs', i ∈ vs) (L : Lev Y (deeper (.ListComp elt gens scope pos) gens (do let _ ← call (.builtin "list.append") [.ref D, ← eval elt Y.env]) (k + 1) (.ref D) Y.env) vs' tB)
    (w0 : W 0 m0 H) (turn : ∀ j m H, W j m H → (J.stop j H ∧ Nx H) ∨ (J.go j H ∧ ∃ Nx1 : Hp → Prop, (∀ H', Nx1 H' → ∃ m', m' < m ∧ W (j + 1) m' H') ∧ ∀ x H', J.yld j H x H' → g x (wipe σ vs) H' fun σ3 H5 => wipe σ3 vs = wipe σ vs ∧ tt σ3 H5 fun b H6 => if b = true then tB σ3 H6 Nx1 else Nx1 H6))
    (hend : ∀ H' s', Inv Y pins (wipe σ vs) H' s' → Nx H' → R (.ok .next) s') :
    codeAny (model Y.prog Y.w) Y.A (.compLoop (.ListComp elt gens scope pos) k (.ref ita) (.ref D) Y.env) R s := by
  have xf : ∀ {α : Type} {t : Sem α} {Q : α → Shared → Prop} {s : Shared} {E : Value → Shared → Prop}, wpAny (model Y.prog Y.w) Y.A t Q Y.xe s → wpAny (model Y.prog Y.w) Y.A t Q E s := fun {α t Q s E} h => wpAny_mono h (fun _ _ q => q) fun e s' z => by
    rw [hxe] at z
    exact z.elim
  have stat : ∀ {H' : Hp}, (∀ b ∈ fp, H' b = none) → ∀ b ∈ fp, FpOk Y pins H' b := fun hn b hb => ⟨hn b hb, (f b hb).2⟩
  refine loop_L hk (fun n s' => ∃ j H', Inv Y pins (wipe σ vs) H' s' ∧ tn j s'.heap ∧ (∀ b ∈ fp, H' b = none) ∧ W j n H') ?_ m0 ⟨0, H, I, st, fun b hb => (f b hb).1, w0⟩
  rintro n s1 ⟨j, H1, I1, st1, n1, w1⟩
  rcases turn j n H1 w1 with ⟨stop, nx⟩ | ⟨go, Nx1, hNx, step⟩
  · refine thnF (T.done Y rfl rfl rfl hc j _ s1 (wipe σ vs) H1 (fun _ _ => False) I1 (stat n1) st1 stop) fun r s2 ⟨hr, I2⟩ => ?_
    subst hr
    exact hend H1 s2 I2 nx
  · refine thnF (T.item Y rfl rfl rfl hc j _ s1 (wipe σ vs) H1 (fun _ _ => False) I1 (stat n1) st1 go) fun r s2 ⟨u1, hr, h2⟩ => ?_
    subst hr
    refine thnF h2 fun _ s3 ⟨x1, H3, I3, r3, y3, st3, n3⟩ => ?_
    have I3' := I3.pinned (stat n3) (T.obj _ _ st3)
    refine xf (thn (hg.run _ s3 (wipe σ vs) H3 x1 u1 _ I3' r3 (step x1 H3 y3)) fun _ s4 ⟨σ4, H4, I4, hw4, q4⟩ => ?_)
    refine xf (thn (ht.run _ s4 σ4 H4 _ I4 q4) fun b1 s5 ⟨H5, I5, q5⟩ => ?_)
    have fin1 : ∀ {σ9 : L2.St} {s' : Shared} {H' : Hp}, Inv Y (pins ++ pinsAt fp s3.heap) σ9 H' s' → σ9.length = (wipe σ vs).length → (∀ (j : Nat) v, (wipe σ vs)[j]? = some (some v) → σ9[j]? = some (some v)) → Nx1 H' → ∃ m, m < n ∧ ∃ j H', Inv Y pins (wipe σ vs) H' s' ∧ tn j s'.heap ∧ (∀ b ∈ fp, H' b = none) ∧ W j m H' := fun {σ9 s' H'} I' hl hkk nx => by
      obtain ⟨m', hm, w'⟩ := hNx H' nx
      have pin' : ∀ b ∈ fp, ∀ o, s3.heap.get? b = some o → s'.heap.get? b = some o ∧ H' b = none := fun b hb o e =>
        let z := I'.pin (b, o) (List.mem_append_right _ (List.mem_append_right _ (mem_pinsAt hb e)))
        ⟨z.1, z.2.1⟩
      refine ⟨m', hm, j + 1, H', I'.unpinned.weak hl.symm hkk, T.keep _ _ _ st3 fun b hb o e => (pin' b hb o e).1, fun b hb => ?_, w'⟩
      obtain ⟨o, e, _⟩ := T.obj _ _ st3 b hb
      exact (pin' b hb o e).2
    have hl4 : σ4.length = (wipe σ vs).length := by rw [← wipe_length σ4 vs, hw4]
    have hk4 : ∀ (j : Nat) v, (wipe σ vs)[j]? = some (some v) → σ4[j]? = some (some v) := fun j v e => by
      rw [← hw4] at e
      exact (wipe_some e).1
    cases b1 with
    | false =>
      simp only [Bool.false_eq_true, if_false] at q5 ⊢
      exact fin1 I5 hl4 hk4 q5
    | true =>
      simp only [if_true] at q5 ⊢
      refine L.run _ s5 σ4 H5 Nx1 _ _ _ I5 q5 fun σ9 H9 s9 I9 hl9 hk9 nx => ?_
      refine wpAny_pure ⟨rfl, fin1 I9 (hl9.trans hl4) (fun j v e => hk9 j v ?_) nx⟩
      rw [← hw4] at e
      obtain ⟨e1, e2⟩ := wipe_some e
      rw [wipe_out fun z => e2 (hv j z)]
      exact e1
/-- a clause that is not the first -/
theorem lev_clause_L {vs vs' : List Nat} {wi : TI} {g : TG} {tt : TT} {tB : TB} (hk : gens[k]? = some ⟨tg, iter, ifs, 0⟩) (hc : Y.calm = true) (hxe : Y.xe = fun _ _ => False) (hi : PI Y tg iter wi) (hg : PG Y tg g) (ht : PTs Y ifs tt)
    (hs : ∀ env x, foldedSetIterable iter env x = pure x) (hv : ∀ i ∈ vs', i ∈ vs) (L : Lev Y (deeper (.ListComp elt gens scope pos) gens (do let _ ← call (.builtin "list.append") [.ref D, ← eval elt Y.env]) (k + 1) (.ref D) Y.env) vs' tB) :
    Lev Y (deeper (.ListComp elt gens scope pos) gens (do let _ ← call (.builtin "list.append") [.ref D, ← eval elt Y.env]) k (.ref D) Y.env) vs (tClause wi g tt vs tB) := by
  refine ⟨fun pins s σ H Nx fin Qf E I h hfin => ?_⟩
  have xf : ∀ {α : Type} {t : Sem α} {Q : α → Shared → Prop} {s : Shared} {E : Value → Shared → Prop}, wpAny (model Y.prog Y.w) Y.A t Q Y.xe s → wpAny (model Y.prog Y.w) Y.A t Q E s := fun {α t Q s E} h => wpAny_mono h (fun _ _ q => q) fun e s' z => by
    rw [hxe] at z
    exact z.elim
  unfold deeper
  rw [hk]
  refine wpAny_bind (xf (thn (hi.run pins s σ H _ I h) fun xv s1 hx => ?_))
  show wpAny _ _ (standAt iter.pos >>= _) _ _ s1
  refine wpAny_bind (wpAny_standAt ?_)
  show wpAny _ _ (foldedSetIterable iter Y.env xv >>= _) _ _ s1
  refine wpAny_bind (wpAny_of_eq (hs Y.env xv) ?_)
  show wpAny _ _ (holding [xv] (pyIter xv) >>= _) _ _ s1
  refine wpAny_bind (wpAny_holding (xf (thn hx fun itv s2 h2 => ?_)))
  obtain ⟨it1, fp1, tn1, J1, H2, e1, I2, T1, st2, f2, W1, ⟨m1, w1⟩, turn1⟩ := h2
  subst e1
  refine wpAny_bind (wpAny_runOwn ?_)
  rw [Around.mark_none]
  have lp := cloop_L (Y := Y) (σ := σ) (vs := vs) (Nx := Nx) (R := fun r s' => match r with | .ok _ => wpAny (model Y.prog Y.w) Y.A fin Qf E s' | .error _ => False) hk hc hxe T1 st2 f2 (I2.weak (wipe_length _ _) fun j v e => (wipe_some e).1) hg ht hv L w1 turn1
    (fun H' s' I' nx => hfin _ H' s' I' (wipe_length _ _) (fun j v e => e) nx)
  refine codeAny_mono (start_L hk lp (T1.self Y.A 0 _ _ _ st2 lp)) fun r s' hr => ?_
  cases r with
  | ok fl => exact hr
  | error e => exact hr.elim
end
section
variable {X : Cx}
theorem core_L {pins : List (Addr × Obj)} {s : Shared} {σ : L2.St} {H : Hp} {Q : VK} {elt tg iter : Expr} {ifs : List Expr} {rest : List Comprehension} {scope : Scope} {own : List (Str × Nat)} {vs' : List Nat} {pos pos' : Pos} {wi : TI} {g : TG} {tt : TT} {tB : Addr → TB} {use : Option (Value → Sem Unit)} {Qf : Value → Shared → Prop}
    (hc : X.calm = true) (hN : X.N.Nodup) (I : Inv X pins σ H s) (hi : PI X tg iter wi) (ok : BlkOk X.N X.env.scope scope own) (hv : ∀ i ∈ vs', i ∈ own.map (·.2))
    (hg : ∀ (s : Shared) (H : Hp) (C : Addr) (cl : List (Str × Addr)) (fp : List Addr), PG (X.blk s H scope (compEnvC scope cl C X.env) fp) tg g) (ht : ∀ (s : Shared) (H : Hp) (C : Addr) (cl : List (Str × Addr)) (fp : List Addr), PTs (X.blk s H scope (compEnvC scope cl C X.env) fp) ifs tt)
    (hL : ∀ (s : Shared) (H : Hp) (C : Addr) (cl : List (Str × Addr)) (fp : List Addr) (D : Addr), Lev (X.blk s H scope (compEnvC scope cl C X.env) fp) (deeper (.ListComp elt (⟨tg, iter, ifs, 0⟩ :: rest) scope pos) (⟨tg, iter, ifs, 0⟩ :: rest) (do let _ ← call (.builtin "list.append") [.ref D, ← eval elt (compEnvC scope cl C X.env)]) 1 (.ref D) (compEnvC scope cl C X.env)) vs' (tB D))
    (hs : ∀ x, foldedSetIterable iter X.env x = pure x)
    (h : tComp (fun _ => .lst []) wi g tt tB (own.map (·.2)) σ H Q)
    (hRR : ∀ D C s' m H', Inv X pins σ H' s' → Q (.ref D) H' → s'.heap.Ns C m → FpOk X pins H' C → compPost (model X.prog X.w) X.A X.xe use Qf (.ref D) C (.ok .next) s') :
    wpAny (model X.prog X.w) X.A (comprehension (.ListComp elt (⟨tg, iter, ifs, 0⟩ :: rest) scope pos) scope X.env pos' (newList []) false (eval iter X.env) use) Qf X.xe s := by
  have hfree : ∀ y ∈ scope.names, y.2 = .free → ∃ c, X.env.cells.lookup y.1 = some c := fun y hy e => by
    rcases ok.free y hy e with k | k
    · exact I.ok.has _ (.inl k)
    · exact I.ok.has _ (.inr k)
  refine wpAny_comprehension_free (use := use) (g := ⟨tg, iter, ifs, 0⟩) (gs := rest) rfl hs (closure_ok hfree) ok.kind (fun y hy e => by rw [ok.uniq y hy, e])
    (thn (hi.run pins s σ H _ I h) fun xv s1 hx => thn hx fun itv s2 h2 => ?_)
  obtain ⟨it, fp, tn, J, H2, e, I2, T, st2, f2, q⟩ := h2
  subst e
  refine wpAny_newObj_type (newEnv_comp ?_) (by show 0 ≤ sizeLine; decide)
  generalize hD : s2.heap.objs.size = D
  have hDn : H2 D = none := I2.hok.fresh (Nat.le_of_eq hD)
  obtain ⟨W, ⟨m0, w0⟩, turn⟩ := q D hDn
  generalize hs3 : ({ s2 with heap := s2.heap.push { cls := .type "list", data := .seq ([] : List Value).toArray } } : Shared) = s3
  have I3 : Inv X pins σ (upd H2 D (.lst [])) s3 := by
    rw [← hs3]
    refine I2.laid (t' := s2.toks) (fun b o e => Heap.get?_push_of_some _ e) (Nat.le_of_eq hD) ⟨Nat.zero_le _, [], 0, .nil, ?_⟩
    rw [← hD]
    exact Heap.get?_push_size _ rfl
  have h3 : s3.heap = s2.heap.push { cls := .type "list", data := .seq ([] : List Value).toArray } := by rw [← hs3]
  have sz : ∀ b ∈ fp, b < s2.heap.objs.size := fun b hb => by
    obtain ⟨o, e, _⟩ := T.obj _ _ st2 b hb
    exact Heap.lt_size e
  have f3 : ∀ b ∈ fp, FpOk X pins (upd H2 D (.lst [])) b ∧ b < s3.heap.objs.size := fun b hb => by
    have hlt := sz b hb
    refine ⟨⟨?_, (f2 b hb).2⟩, by rw [h3, Heap.size_push]; exact Nat.lt_succ_of_lt hlt⟩
    rw [upd_ne (by rw [← hD]; exact Nat.ne_of_lt hlt)]
    exact (f2 b hb).1
  have st3 : tn 0 s3.heap := T.keep _ _ _ st2 fun b _ o e => by rw [h3]; exact Heap.get?_push_of_some _ e
  have I4 := block_start I3 ok hN f3
  have pg := hg s3 (upd H2 D (.lst [])) s3.heap.objs.size (cellsFrom (s3.heap.objs.size + 1) scope.names (cloFrom X.env.cells scope.names [])) fp
  have pt := ht s3 (upd H2 D (.lst [])) s3.heap.objs.size (cellsFrom (s3.heap.objs.size + 1) scope.names (cloFrom X.env.cells scope.names [])) fp
  have pL := hL s3 (upd H2 D (.lst [])) s3.heap.objs.size (cellsFrom (s3.heap.objs.size + 1) scope.names (cloFrom X.env.cells scope.names [])) fp D
  show codeAny _ _ (.compStart (.ListComp elt (⟨tg, iter, ifs, 0⟩ :: rest) scope pos) 0 (.ref it) (.ref D) (compEnvC scope (cellsFrom (s3.heap.objs.size + 1) scope.names (cloFrom X.env.cells scope.names [])) s3.heap.objs.size X.env)) (compPost (model X.prog X.w) X.A X.xe use Qf (.ref D) s3.heap.objs.size) { s3 with heap := pushCells (s3.heap.push { cls := .type "dict", data := .dict #[] }) scope.names }
  have nfp : ∀ b ∈ fp, (upd H2 D (.lst [])) b = none := fun b hb => (f3 b hb).1.1
  generalize hce : compEnvC scope (cellsFrom (s3.heap.objs.size + 1) scope.names (cloFrom X.env.cells scope.names [])) s3.heap.objs.size X.env = ce at I4 pg pt pL ⊢
  have cL : ce.locals = s3.heap.objs.size := by subst hce; rfl
  generalize hH3 : upd H2 D (.lst []) = H3 at I3 I4 pg pt pL w0 nfp f3
  generalize hs4 : ({ s3 with heap := pushCells (s3.heap.push { cls := .type "dict", data := .dict #[] }) scope.names } : Shared) = s4 at I4 ⊢
  have st4 : tn 0 s4.heap := T.keep _ _ _ st3 fun b _ o e => by rw [← hs4]; exact pushCells_keeps _ _ _ _ (Heap.get?_push_of_some _ e)
  have stat : ∀ b ∈ fp, FpOk (X.blk s3 H3 scope ce fp) [] H3 b := fun b hb =>
    ⟨nfp b hb, (I4.ok.exf b hb).1, I4.ok.exfs b hb, .inl hb, fun x c e => (I4.ok.exf b hb).2 x c e, fun p hp => absurd (show p ∈ ([] : List (Addr × Obj)) ++ [] from hp) (by simp)⟩
  have loop : codeAny (model X.prog X.w) X.A (.compLoop (.ListComp elt (⟨tg, iter, ifs, 0⟩ :: rest) scope pos) 0 (.ref it) (.ref D) ce) (compPost (model X.prog X.w) X.A X.xe use Qf (.ref D) s3.heap.objs.size) s4 := by
    refine cloop_L (Y := X.blk s3 H3 scope ce fp) (pins := []) (σ := σ) (vs := own.map (·.2)) (Nx := fun H' => Q (.ref D) H') (k := 0) (tg := tg) (iter := iter) (ifs := ifs) rfl hc rfl T st4 stat I4 pg pt hv pL w0 turn fun H6 s6 I6 qq => ?_
    have I7 : Inv X pins σ H6 s6 := I3.call' (ch := fp) I6.os I6.base I6.hok I6.bare fun b hb => ⟨(f3 b hb).1.2.2.2.1, (f3 b hb).1.2.1, (f3 b hb).1.2.2.2.2.1, (f3 b hb).1.2.2.2.2.2⟩
    have nC : H6 s3.heap.objs.size = none := by
      have z : H6 ce.locals = none := I6.free
      rw [cL] at z
      exact z
    obtain ⟨m, hn, _⟩ := I6.loc
    have hn : s6.heap.Ns ce.locals m := hn
    rw [cL] at hn
    exact hRR D s3.heap.objs.size s6 m H6 I7 qq hn (I3.fpOk (Nat.le_refl _) nC)
  exact start_L (tg := tg) (iter := iter) (ifs := ifs) rfl loop (T.self X.A 0 _ _ _ st4 loop)
/-- as a value -/
theorem pe_cL {elt tg iter : Expr} {ifs : List Expr} {rest : List Comprehension} {scope : Scope} {own : List (Str × Nat)} {vs' : List Nat} {pos : Pos} {wi : TI} {g : TG} {tt : TT} {tB : Addr → TB}
    (hc : X.calm = true) (hN : X.N.Nodup) (hi : PI X tg iter wi) (ok : BlkOk X.N X.env.scope scope own) (hv : ∀ i ∈ vs', i ∈ own.map (·.2))
    (hg : ∀ (s : Shared) (H : Hp) (C : Addr) (cl : List (Str × Addr)) (fp : List Addr), PG (X.blk s H scope (compEnvC scope cl C X.env) fp) tg g) (ht : ∀ (s : Shared) (H : Hp) (C : Addr) (cl : List (Str × Addr)) (fp : List Addr), PTs (X.blk s H scope (compEnvC scope cl C X.env) fp) ifs tt)
    (hL : ∀ (s : Shared) (H : Hp) (C : Addr) (cl : List (Str × Addr)) (fp : List Addr) (D : Addr), Lev (X.blk s H scope (compEnvC scope cl C X.env) fp) (deeper (.ListComp elt (⟨tg, iter, ifs, 0⟩ :: rest) scope pos) (⟨tg, iter, ifs, 0⟩ :: rest) (do let _ ← call (.builtin "list.append") [.ref D, ← eval elt (compEnvC scope cl C X.env)]) 1 (.ref D) (compEnvC scope cl C X.env)) vs' (tB D))
    (hs : ∀ x, foldedSetIterable iter X.env x = pure x := by intro _; rfl) :
    PE X (.ListComp elt (⟨tg, iter, ifs, 0⟩ :: rest) scope pos) (tComp (fun _ => .lst []) wi g tt tB (own.map (·.2))) := by
  refine ⟨fun pins s σ H Q I h => ?_⟩
  rw [eval_ListComp]
  refine core_L hc hN I hi ok hv hg ht hL hs h fun D C s' m H' I' q hn f => ⟨m, hn, fun h'' sb => ?_⟩
  obtain ⟨f0, f1, f2, f3, f4, f5⟩ := f
  exact ⟨.ref D, H', I'.turned (t' := s'.toks) (fun b o hb e => (sb.2 b hb).trans e) f0 f1 f3 f4 f5, rfl, q⟩
end

/-! ### sets of ints -/
section
variable {prog : Program} {w : World} {A : Around} {R : Result → Shared → Prop} {s : Shared} {elt tg iter : Expr} {ifs : List Expr} {gens : List Comprehension} {scope : Scope} {pos : Pos} {k : Nat} {it acc : Value} {env : Env}
theorem loop_S (hk : gens[k]? = some ⟨tg, iter, ifs, 0⟩) (I : Nat → Shared → Prop)
    (turn : ∀ n s, I n s → wpAny (model prog w) A (pyNext it) (fun r s₁ => match r with
      | none => R (.ok .next) s₁
      | some v => wpAny (model prog w) A (letOwnedTupleGo tg it v) (fun _ s₁' => wpAny (model prog w) A (assign tg env v) (fun _ s₂ =>
          wpAny (model prog w) A (forIn ifs true fun c r => if r = true then do let ok ← isTrue c env (eval c env); pure (ForInStep.yield ok) else pure (ForInStep.yield r)) (fun ok s₃ =>
            if ok = true then wpAny (model prog w) A (deeper (.SetComp elt gens scope pos) gens (do let v ← eval elt env; standAt elt.pos; let _ ← call (.builtin "set.add") [acc, v]) (k + 1) acc env (again (.compLoop (.SetComp elt gens scope pos) k it acc env)))
              (fun fin s' => match fin with | .done f => R (.ok f) s' | .again c' => c' = .compLoop (.SetComp elt gens scope pos) k it acc env ∧ ∃ m, m < n ∧ I m s') (notedBy (model prog w) A env fun e s' => R (.error e) s') s₃
            else ∃ m, m < n ∧ I m s₃) (notedBy (model prog w) A env fun e s' => R (.error e) s') s₂) (notedBy (model prog w) A env fun e s' => R (.error e) s') s₁') (notedBy (model prog w) A env fun e s' => R (.error e) s') s₁) (notedBy (model prog w) A env fun e s' => R (.error e) s') s)
    (n : Nat) (h : I n s) : codeAny (model prog w) A (.compLoop (.SetComp elt gens scope pos) k it acc env) R s := by
  refine codeAny_loop rfl I (fun n s hI => ?_) n h
  show wpAny _ A ((compTurn (.SetComp elt gens scope pos) k it acc env).onRaise (fun x => do noteFrame x env; theTreesLotGoes x)) _ _ s
  refine wpAny_noted ?_
  rw [compTurn_S it acc env hk]
  refine wpAny_bind (wpAny_standAt (wpAny_bind (wpAny_mono (turn n s hI) (fun r s₁ h₁ => ?_) fun _ _ h' => h')))
  cases r with
  | none => exact wpAny_pure h₁
  | some v =>
    refine wpAny_bind (wpAny_mono h₁ (fun _ s₁' h₁' => ?_) fun _ _ h' => h')
    refine wpAny_bind (wpAny_mono h₁' (fun _ s₂ h₂ => wpAny_bind (wpAny_mono h₂ (fun ok s₃ h₃ => ?_) fun _ _ h' => h')) fun _ _ h' => h')
    cases ok with
    | false => exact wpAny_pure ⟨rfl, h₃⟩
    | true => exact h₃
theorem start_S (hk : gens[k]? = some ⟨tg, iter, ifs, 0⟩)
    (h0 : codeAny (model prog w) A (.compLoop (.SetComp elt gens scope pos) k it acc env) R s)
    (h : wpAny (model prog w) A (pyIter it) (fun it' s' => codeAny (model prog w) A (.compLoop (.SetComp elt gens scope pos) k it' acc env) R s')
      (notedBy (model prog w) A env fun x s' => R (.error x) s') s) :
    codeAny (model prog w) A (.compStart (.SetComp elt gens scope pos) k it acc env) R s := by
  refine codeAny_of_tree ?_
  show wpAny _ _ ((compStart (.SetComp elt gens scope pos) k it acc env).onRaise (fun x => do noteFrame x env; standAt theWindowsPlace)) _ _ s
  refine wpAny_notedAt ?_
  unfold compStart
  have hcl : (clausesOf (.SetComp elt gens scope pos))[k]? = some ⟨tg, iter, ifs, 0⟩ := hk
  rw [hcl]
  show wpAny _ _ (ask >>= _) _ _ s
  refine wpAny_bind (wpAny_askSetting (wpAny_ite ?_))
  split
  · first
      | exact wpAny_bind (wpAny_pure (wpAny_pure (And.intro rfl h0)))
      | exact wpAny_pure (And.intro rfl h0)
  · first
      | exact wpAny_bind (wpAny_rule (wpAny_bind (wpAny_standAt (wpAny_bind (wpAny_mono h (fun it' s' h' => wpAny_pure (And.intro rfl h')) fun _ _ x => x)))))
      | (refine wpAny_bind (wpAny_rule ?_); show wpAny _ _ (standAt iter.pos >>= _) _ _ s; exact wpAny_bind (wpAny_standAt (wpAny_bind (wpAny_mono h (fun it' s' h' => wpAny_pure (And.intro rfl h')) fun _ _ x => x))))
end
section
variable {Y : Cx} {elt tg iter : Expr} {ifs : List Expr} {gens : List Comprehension} {scope : Scope} {pos : Pos} {k : Nat} {D : Addr}
/-- the loop of clause k, its iterator at hand -/
theorem cloop_S {pins : List (Addr × Obj)} {s : Shared} {σ : L2.St} {H : Hp} {vs vs' : List Nat} {J : It} {fp : List Addr} {ita : Addr} {tn : Nat → Heap → Prop} {g : TG} {tt : TT} {tB : TB} {Nx : Hp → Prop} {R : Result → Shared → Prop} {W : Nat → Nat → Hp → Prop} {m0 : Nat}
    (hk : gens[k]? = some ⟨tg, iter, ifs, 0⟩) (hc : Y.calm = true) (hxe : Y.xe = fun _ _ => False) (T : Turn Y.prog Y.w Y.K tg J fp ita tn) (st : tn 0 s.heap) (f : ∀ b ∈ fp, FpOk Y pins H b) (I : Inv Y pins (wipe σ vs) H s)
    (hg : PG Y tg g) (ht : PTs Y ifs tt) (hv : ∀ i ∈ vs', i ∈ vs) (L : Lev Y (deeper (.SetComp elt gens scope pos) gens (do let v ← eval elt Y.env; standAt elt.pos; let _ ← call (.builtin "set.add") [.ref D, v]) (k + 1) (.ref D) Y.env) vs' tB)
    (w0 : W 0 m0 H) (turn : ∀ j m H, W j m H → (J.stop j H ∧ Nx H) ∨ (J.go j H ∧ ∃ Nx1 : Hp → Prop, (∀ H', Nx1 H' → ∃ m', m' < m ∧ W (j + 1) m' H') ∧ ∀ x H', J.yld j H x H' → g x (wipe σ vs) H' fun σ3 H5 => wipe σ3 vs = wipe σ vs ∧ tt σ3 H5 fun b H6 => if b = true then tB σ3 H6 Nx1 else Nx1 H6))
    (hend : ∀ H' s', Inv Y pins (wipe σ vs) H' s' → Nx H' → R (.ok .next) s') :
    codeAny (model Y.prog Y.w) Y.A (.compLoop (.SetComp elt gens scope pos) k (.ref ita) (.ref D) Y.env) R s := by
  have xf : ∀ {α : Type} {t : Sem α} {Q : α → Shared → Prop} {s : Shared} {E : Value → Shared → Prop}, wpAny (model Y.prog Y.w) Y.A t Q Y.xe s → wpAny (model Y.prog Y.w) Y.A t Q E s := fun {α t Q s E} h => wpAny_mono h (fun _ _ q => q) fun e s' z => by
    rw [hxe] at z
    exact z.elim
  have stat : ∀ {H' : Hp}, (∀ b ∈ fp, H' b = none) → ∀ b ∈ fp, FpOk Y pins H' b := fun hn b hb => ⟨hn b hb, (f b hb).2⟩
  refine loop_S hk (fun n s' => ∃ j H', Inv Y pins (wipe σ vs) H' s' ∧ tn j s'.heap ∧ (∀ b ∈ fp, H' b = none) ∧ W j n H') ?_ m0 ⟨0, H, I, st, fun b hb => (f b hb).1, w0⟩
  rintro n s1 ⟨j, H1, I1, st1, n1, w1⟩
  rcases turn j n H1 w1 with ⟨stop, nx⟩ | ⟨go, Nx1, hNx, step⟩
  · refine thnF (T.done Y rfl rfl rfl hc j _ s1 (wipe σ vs) H1 (fun _ _ => False) I1 (stat n1) st1 stop) fun r s2 ⟨hr, I2⟩ => ?_
    subst hr
    exact hend H1 s2 I2 nx
  · refine thnF (T.item Y rfl rfl rfl hc j _ s1 (wipe σ vs) H1 (fun _ _ => False) I1 (stat n1) st1 go) fun r s2 ⟨u1, hr, h2⟩ => ?_
    subst hr
    refine thnF h2 fun _ s3 ⟨x1, H3, I3, r3, y3, st3, n3⟩ => ?_
    have I3' := I3.pinned (stat n3) (T.obj _ _ st3)
    refine xf (thn (hg.run _ s3 (wipe σ vs) H3 x1 u1 _ I3' r3 (step x1 H3 y3)) fun _ s4 ⟨σ4, H4, I4, hw4, q4⟩ => ?_)
    refine xf (thn (ht.run _ s4 σ4 H4 _ I4 q4) fun b1 s5 ⟨H5, I5, q5⟩ => ?_)
    have fin1 : ∀ {σ9 : L2.St} {s' : Shared} {H' : Hp}, Inv Y (pins ++ pinsAt fp s3.heap) σ9 H' s' → σ9.length = (wipe σ vs).length → (∀ (j : Nat) v, (wipe σ vs)[j]? = some (some v) → σ9[j]? = some (some v)) → Nx1 H' → ∃ m, m < n ∧ ∃ j H', Inv Y pins (wipe σ vs) H' s' ∧ tn j s'.heap ∧ (∀ b ∈ fp, H' b = none) ∧ W j m H' := fun {σ9 s' H'} I' hl hkk nx => by
      obtain ⟨m', hm, w'⟩ := hNx H' nx
      have pin' : ∀ b ∈ fp, ∀ o, s3.heap.get? b = some o → s'.heap.get? b = some o ∧ H' b = none := fun b hb o e =>
        let z := I'.pin (b, o) (List.mem_append_right _ (List.mem_append_right _ (mem_pinsAt hb e)))
        ⟨z.1, z.2.1⟩
      refine ⟨m', hm, j + 1, H', I'.unpinned.weak hl.symm hkk, T.keep _ _ _ st3 fun b hb o e => (pin' b hb o e).1, fun b hb => ?_, w'⟩
      obtain ⟨o, e, _⟩ := T.obj _ _ st3 b hb
      exact (pin' b hb o e).2
    have hl4 : σ4.length = (wipe σ vs).length := by rw [← wipe_length σ4 vs, hw4]
    have hk4 : ∀ (j : Nat) v, (wipe σ vs)[j]? = some (some v) → σ4[j]? = some (some v) := fun j v e => by
      rw [← hw4] at e
      exact (wipe_some e).1
    cases b1 with
    | false =>
      simp only [Bool.false_eq_true, if_false] at q5 ⊢
      exact fin1 I5 hl4 hk4 q5
    | true =>
      simp only [if_true] at q5 ⊢
      refine L.run _ s5 σ4 H5 Nx1 _ _ _ I5 q5 fun σ9 H9 s9 I9 hl9 hk9 nx => ?_
      refine wpAny_pure ⟨rfl, fin1 I9 (hl9.trans hl4) (fun j v e => hk9 j v ?_) nx⟩
      rw [← hw4] at e
      obtain ⟨e1, e2⟩ := wipe_some e
      rw [wipe_out fun z => e2 (hv j z)]
      exact e1
/-- a clause that is not the first -/
theorem lev_clause_S {vs vs' : List Nat} {wi : TI} {g : TG} {tt : TT} {tB : TB} (hk : gens[k]? = some ⟨tg, iter, ifs, 0⟩) (hc : Y.calm = true) (hxe : Y.xe = fun _ _ => False) (hi : PI Y tg iter wi) (hg : PG Y tg g) (ht : PTs Y ifs tt)
    (hs : ∀ env x, foldedSetIterable iter env x = pure x) (hv : ∀ i ∈ vs', i ∈ vs) (L : Lev Y (deeper (.SetComp elt gens scope pos) gens (do let v ← eval elt Y.env; standAt elt.pos; let _ ← call (.builtin "set.add") [.ref D, v]) (k + 1) (.ref D) Y.env) vs' tB) :
    Lev Y (deeper (.SetComp elt gens scope pos) gens (do let v ← eval elt Y.env; standAt elt.pos; let _ ← call (.builtin "set.add") [.ref D, v]) k (.ref D) Y.env) vs (tClause wi g tt vs tB) := by
  refine ⟨fun pins s σ H Nx fin Qf E I h hfin => ?_⟩
  have xf : ∀ {α : Type} {t : Sem α} {Q : α → Shared → Prop} {s : Shared} {E : Value → Shared → Prop}, wpAny (model Y.prog Y.w) Y.A t Q Y.xe s → wpAny (model Y.prog Y.w) Y.A t Q E s := fun {α t Q s E} h => wpAny_mono h (fun _ _ q => q) fun e s' z => by
    rw [hxe] at z
    exact z.elim
  unfold deeper
  rw [hk]
  refine wpAny_bind (xf (thn (hi.run pins s σ H _ I h) fun xv s1 hx => ?_))
  show wpAny _ _ (standAt iter.pos >>= _) _ _ s1
  refine wpAny_bind (wpAny_standAt ?_)
  show wpAny _ _ (foldedSetIterable iter Y.env xv >>= _) _ _ s1
  refine wpAny_bind (wpAny_of_eq (hs Y.env xv) ?_)
  show wpAny _ _ (holding [xv] (pyIter xv) >>= _) _ _ s1
  refine wpAny_bind (wpAny_holding (xf (thn hx fun itv s2 h2 => ?_)))
  obtain ⟨it1, fp1, tn1, J1, H2, e1, I2, T1, st2, f2, W1, ⟨m1, w1⟩, turn1⟩ := h2
  subst e1
  refine wpAny_bind (wpAny_runOwn ?_)
  rw [Around.mark_none]
  have lp := cloop_S (Y := Y) (σ := σ) (vs := vs) (Nx := Nx) (R := fun r s' => match r with | .ok _ => wpAny (model Y.prog Y.w) Y.A fin Qf E s' | .error _ => False) hk hc hxe T1 st2 f2 (I2.weak (wipe_length _ _) fun j v e => (wipe_some e).1) hg ht hv L w1 turn1
    (fun H' s' I' nx => hfin _ H' s' I' (wipe_length _ _) (fun j v e => e) nx)
  refine codeAny_mono (start_S hk lp (T1.self Y.A 0 _ _ _ st2 lp)) fun r s' hr => ?_
  cases r with
  | ok fl => exact hr
  | error e => exact hr.elim
end
section
variable {X : Cx}
theorem core_S {pins : List (Addr × Obj)} {s : Shared} {σ : L2.St} {H : Hp} {Q : VK} {elt tg iter : Expr} {ifs : List Expr} {rest : List Comprehension} {scope : Scope} {own : List (Str × Nat)} {vs' : List Nat} {pos pos' : Pos} {wi : TI} {g : TG} {tt : TT} {tB : Addr → TB} {use : Option (Value → Sem Unit)} {Qf : Value → Shared → Prop}
    (hc : X.calm = true) (hN : X.N.Nodup) (I : Inv X pins σ H s) (hi : PI X tg iter wi) (ok : BlkOk X.N X.env.scope scope own) (hv : ∀ i ∈ vs', i ∈ own.map (·.2))
    (hg : ∀ (s : Shared) (H : Hp) (C : Addr) (cl : List (Str × Addr)) (fp : List Addr), PG (X.blk s H scope (compEnvC scope cl C X.env) fp) tg g) (ht : ∀ (s : Shared) (H : Hp) (C : Addr) (cl : List (Str × Addr)) (fp : List Addr), PTs (X.blk s H scope (compEnvC scope cl C X.env) fp) ifs tt)
    (hL : ∀ (s : Shared) (H : Hp) (C : Addr) (cl : List (Str × Addr)) (fp : List Addr) (D : Addr), Lev (X.blk s H scope (compEnvC scope cl C X.env) fp) (deeper (.SetComp elt (⟨tg, iter, ifs, 0⟩ :: rest) scope pos) (⟨tg, iter, ifs, 0⟩ :: rest) (do let v ← eval elt (compEnvC scope cl C X.env); standAt elt.pos; let _ ← call (.builtin "set.add") [.ref D, v]) 1 (.ref D) (compEnvC scope cl C X.env)) vs' (tB D))
    (hs : ∀ x, foldedSetIterable iter X.env x = pure x)
    (h : tComp (fun D => SetO X.w D (fun _ => false) 0) wi g tt tB (own.map (·.2)) σ H Q)
    (hRR : ∀ D C s' m H', Inv X pins σ H' s' → Q (.ref D) H' → s'.heap.Ns C m → FpOk X pins H' C → compPost (model X.prog X.w) X.A X.xe use Qf (.ref D) C (.ok .next) s') :
    wpAny (model X.prog X.w) X.A (comprehension (.SetComp elt (⟨tg, iter, ifs, 0⟩ :: rest) scope pos) scope X.env pos' (newSet (.type "set")) false (eval iter X.env) use) Qf X.xe s := by
  have hfree : ∀ y ∈ scope.names, y.2 = .free → ∃ c, X.env.cells.lookup y.1 = some c := fun y hy e => by
    rcases ok.free y hy e with k | k
    · exact I.ok.has _ (.inl k)
    · exact I.ok.has _ (.inr k)
  refine wpAny_comprehension_free (use := use) (g := ⟨tg, iter, ifs, 0⟩) (gs := rest) rfl hs (closure_ok hfree) ok.kind (fun y hy e => by rw [ok.uniq y hy, e])
    (thn (hi.run pins s σ H _ I h) fun xv s1 hx => thn hx fun itv s2 h2 => ?_)
  obtain ⟨it, fp, tn, J, H2, e, I2, T, st2, f2, q⟩ := h2
  subst e
  refine PpSet.newSet_ok (newEnv_comp ?_)
  generalize hD : s2.heap.objs.size = D
  have hDn : H2 D = none := I2.hok.fresh (Nat.le_of_eq hD)
  obtain ⟨W, ⟨m0, w0⟩, turn⟩ := q D hDn
  generalize hs3 : ({ s2 with heap := s2.heap.push { cls := .type "set", dict := none, data := .set #[] 0 (.fresh 0 0 (!X.w.params.followText "set-order")) } } : Shared) = s3
  have I3 : Inv X pins σ (upd H2 D (SetO X.w D (fun _ => false) 0)) s3 := by
    rw [← hs3]
    refine I2.laid (t' := s2.toks) (fun b o e => Heap.get?_push_of_some _ e) (Nat.le_of_eq hD) ?_
    rw [← hD]
    exact setO_new (setR_fresh X.w)
  have h3 : s3.heap = s2.heap.push { cls := .type "set", dict := none, data := .set #[] 0 (.fresh 0 0 (!X.w.params.followText "set-order")) } := by rw [← hs3]
  have sz : ∀ b ∈ fp, b < s2.heap.objs.size := fun b hb => by
    obtain ⟨o, e, _⟩ := T.obj _ _ st2 b hb
    exact Heap.lt_size e
  have f3 : ∀ b ∈ fp, FpOk X pins (upd H2 D (SetO X.w D (fun _ => false) 0)) b ∧ b < s3.heap.objs.size := fun b hb => by
    have hlt := sz b hb
    refine ⟨⟨?_, (f2 b hb).2⟩, by rw [h3, Heap.size_push]; exact Nat.lt_succ_of_lt hlt⟩
    rw [upd_ne (by rw [← hD]; exact Nat.ne_of_lt hlt)]
    exact (f2 b hb).1
  have st3 : tn 0 s3.heap := T.keep _ _ _ st2 fun b _ o e => by rw [h3]; exact Heap.get?_push_of_some _ e
  have I4 := block_start I3 ok hN f3
  have pg := hg s3 (upd H2 D (SetO X.w D (fun _ => false) 0)) s3.heap.objs.size (cellsFrom (s3.heap.objs.size + 1) scope.names (cloFrom X.env.cells scope.names [])) fp
  have pt := ht s3 (upd H2 D (SetO X.w D (fun _ => false) 0)) s3.heap.objs.size (cellsFrom (s3.heap.objs.size + 1) scope.names (cloFrom X.env.cells scope.names [])) fp
  have pL := hL s3 (upd H2 D (SetO X.w D (fun _ => false) 0)) s3.heap.objs.size (cellsFrom (s3.heap.objs.size + 1) scope.names (cloFrom X.env.cells scope.names [])) fp D
  show codeAny _ _ (.compStart (.SetComp elt (⟨tg, iter, ifs, 0⟩ :: rest) scope pos) 0 (.ref it) (.ref D) (compEnvC scope (cellsFrom (s3.heap.objs.size + 1) scope.names (cloFrom X.env.cells scope.names [])) s3.heap.objs.size X.env)) (compPost (model X.prog X.w) X.A X.xe use Qf (.ref D) s3.heap.objs.size) { s3 with heap := pushCells (s3.heap.push { cls := .type "dict", data := .dict #[] }) scope.names }
  have nfp : ∀ b ∈ fp, (upd H2 D (SetO X.w D (fun _ => false) 0)) b = none := fun b hb => (f3 b hb).1.1
  generalize hce : compEnvC scope (cellsFrom (s3.heap.objs.size + 1) scope.names (cloFrom X.env.cells scope.names [])) s3.heap.objs.size X.env = ce at I4 pg pt pL ⊢
  have cL : ce.locals = s3.heap.objs.size := by subst hce; rfl
  generalize hH3 : upd H2 D (SetO X.w D (fun _ => false) 0) = H3 at I3 I4 pg pt pL w0 nfp f3
  generalize hs4 : ({ s3 with heap := pushCells (s3.heap.push { cls := .type "dict", data := .dict #[] }) scope.names } : Shared) = s4 at I4 ⊢
  have st4 : tn 0 s4.heap := T.keep _ _ _ st3 fun b _ o e => by rw [← hs4]; exact pushCells_keeps _ _ _ _ (Heap.get?_push_of_some _ e)
  have stat : ∀ b ∈ fp, FpOk (X.blk s3 H3 scope ce fp) [] H3 b := fun b hb =>
    ⟨nfp b hb, (I4.ok.exf b hb).1, I4.ok.exfs b hb, .inl hb, fun x c e => (I4.ok.exf b hb).2 x c e, fun p hp => absurd (show p ∈ ([] : List (Addr × Obj)) ++ [] from hp) (by simp)⟩
  have loop : codeAny (model X.prog X.w) X.A (.compLoop (.SetComp elt (⟨tg, iter, ifs, 0⟩ :: rest) scope pos) 0 (.ref it) (.ref D) ce) (compPost (model X.prog X.w) X.A X.xe use Qf (.ref D) s3.heap.objs.size) s4 := by
    refine cloop_S (Y := X.blk s3 H3 scope ce fp) (pins := []) (σ := σ) (vs := own.map (·.2)) (Nx := fun H' => Q (.ref D) H') (k := 0) (tg := tg) (iter := iter) (ifs := ifs) rfl hc rfl T st4 stat I4 pg pt hv pL w0 turn fun H6 s6 I6 qq => ?_
    have I7 : Inv X pins σ H6 s6 := I3.call' (ch := fp) I6.os I6.base I6.hok I6.bare fun b hb => ⟨(f3 b hb).1.2.2.2.1, (f3 b hb).1.2.1, (f3 b hb).1.2.2.2.2.1, (f3 b hb).1.2.2.2.2.2⟩
    have nC : H6 s3.heap.objs.size = none := by
      have z : H6 ce.locals = none := I6.free
      rw [cL] at z
      exact z
    obtain ⟨m, hn, _⟩ := I6.loc
    have hn : s6.heap.Ns ce.locals m := hn
    rw [cL] at hn
    exact hRR D s3.heap.objs.size s6 m H6 I7 qq hn (I3.fpOk (Nat.le_refl _) nC)
  exact start_S (tg := tg) (iter := iter) (ifs := ifs) rfl loop (T.self X.A 0 _ _ _ st4 loop)
/-- as a value -/
theorem pe_cS {elt tg iter : Expr} {ifs : List Expr} {rest : List Comprehension} {scope : Scope} {own : List (Str × Nat)} {vs' : List Nat} {pos : Pos} {wi : TI} {g : TG} {tt : TT} {tB : Addr → TB}
    (hc : X.calm = true) (hN : X.N.Nodup) (hi : PI X tg iter wi) (ok : BlkOk X.N X.env.scope scope own) (hv : ∀ i ∈ vs', i ∈ own.map (·.2))
    (hg : ∀ (s : Shared) (H : Hp) (C : Addr) (cl : List (Str × Addr)) (fp : List Addr), PG (X.blk s H scope (compEnvC scope cl C X.env) fp) tg g) (ht : ∀ (s : Shared) (H : Hp) (C : Addr) (cl : List (Str × Addr)) (fp : List Addr), PTs (X.blk s H scope (compEnvC scope cl C X.env) fp) ifs tt)
    (hL : ∀ (s : Shared) (H : Hp) (C : Addr) (cl : List (Str × Addr)) (fp : List Addr) (D : Addr), Lev (X.blk s H scope (compEnvC scope cl C X.env) fp) (deeper (.SetComp elt (⟨tg, iter, ifs, 0⟩ :: rest) scope pos) (⟨tg, iter, ifs, 0⟩ :: rest) (do let v ← eval elt (compEnvC scope cl C X.env); standAt elt.pos; let _ ← call (.builtin "set.add") [.ref D, v]) 1 (.ref D) (compEnvC scope cl C X.env)) vs' (tB D))
    (hs : ∀ x, foldedSetIterable iter X.env x = pure x := by intro _; rfl) :
    PE X (.SetComp elt (⟨tg, iter, ifs, 0⟩ :: rest) scope pos) (tComp (fun D => SetO X.w D (fun _ => false) 0) wi g tt tB (own.map (·.2))) := by
  refine ⟨fun pins s σ H Q I h => ?_⟩
  rw [PpSet.eval_SetComp]
  refine core_S hc hN I hi ok hv hg ht hL hs h fun D C s' m H' I' q hn f => ⟨m, hn, fun h'' sb => ?_⟩
  obtain ⟨f0, f1, f2, f3, f4, f5⟩ := f
  exact ⟨.ref D, H', I'.turned (t' := s'.toks) (fun b o hb e => (sb.2 b hb).trans e) f0 f1 f3 f4 f5, rfl, q⟩
end

/-! ### the element -/
section
variable {Y : Cx} {elt : Expr} {gens : List Comprehension} {scope : Scope} {pos : Pos} {k : Nat} {D : Addr} {te : TE}
def tEmitL (te : TE) (D : Addr) : TB := fun σ H Nx => te σ H fun y H4 => ∃ acc, H4 D = some (.lst acc) ∧ acc.length < sizeLine ∧ Nx (upd H4 D (.lst (acc ++ [y])))
def tEmitS (w : World) (te : TE) (D : Addr) : TB := fun σ H Nx => te σ H fun y H4 => ∃ (c : Int) (S : Int → Bool) (n : Nat), y = .int c ∧ H4 D = some (SetO w D S n) ∧ n + 1 < scanBound ∧ Nx (upd H4 D (SetO w D (fun j => S j || decide (j = c)) (if S c = true then n else n + 1)))
theorem lev_elt_L (hk : gens[k]? = none) (hxe : Y.xe = fun _ _ => False) (he : PE Y elt te) :
    Lev Y (deeper (.ListComp elt gens scope pos) gens (do let _ ← call (.builtin "list.append") [.ref D, ← eval elt Y.env]) k (.ref D) Y.env) [] (tEmitL te D) := by
  refine ⟨fun pins s σ H Nx fin Qf E I h hfin => ?_⟩
  unfold deeper
  rw [hk]
  have xf : ∀ {α : Type} {t : Sem α} {Q : α → Shared → Prop} {s : Shared} {E : Value → Shared → Prop}, wpAny (model Y.prog Y.w) Y.A t Q Y.xe s → wpAny (model Y.prog Y.w) Y.A t Q E s := fun {α t Q s E} h => wpAny_mono h (fun _ _ q => q) fun e s' z => by
    rw [hxe] at z
    exact z.elim
  refine wpAny_bind (wpAny_bind (xf (thn (he.run pins s σ H _ I h) fun u s1 ⟨y, H1, I1, r1, acc, hD, hz, nx⟩ => ?_)))
  refine wpAny_bind (app_ok I1 hD hz r1 fun s2 I2 => ?_)
  exact wpAny_pure (hfin σ _ s2 I2 rfl (fun j v e => e) nx)
theorem lev_elt_S (hk : gens[k]? = none) (hxe : Y.xe = fun _ _ => False) (he : PE Y elt te) :
    Lev Y (deeper (.SetComp elt gens scope pos) gens (do let v ← eval elt Y.env; standAt elt.pos; let _ ← call (.builtin "set.add") [.ref D, v]) k (.ref D) Y.env) [] (tEmitS Y.w te D) := by
  refine ⟨fun pins s σ H Nx fin Qf E I h hfin => ?_⟩
  unfold deeper
  rw [hk]
  have xf : ∀ {α : Type} {t : Sem α} {Q : α → Shared → Prop} {s : Shared} {E : Value → Shared → Prop}, wpAny (model Y.prog Y.w) Y.A t Q Y.xe s → wpAny (model Y.prog Y.w) Y.A t Q E s := fun {α t Q s E} h => wpAny_mono h (fun _ _ q => q) fun e s' z => by
    rw [hxe] at z
    exact z.elim
  refine wpAny_bind (wpAny_bind (xf (thn (he.run pins s σ H _ I h) fun u s1 ⟨y, H1, I1, r1, c, S, n, ey, hD, hz, nx⟩ => ?_)))
  subst ey
  refine wpAny_bind (wpAny_standAt (wpAny_bind ?_))
  have c1 := mt_sadd (X := Y) pins s1 σ H1 (.ref D) [.int c] (.ref D) [u] (fun v H' => Nx H') I1 rfl (.cons r1 .nil) ⟨D, c, S, n, rfl, rfl, hD, hz, nx⟩
  refine xf (thn c1 fun v s2 ⟨y2, H2, I2, r2, nx2⟩ => ?_)
  exact wpAny_pure (hfin σ H2 s2 I2 rfl (fun j v e => e) nx2)
end
end BR
/-! BrC1: name = [..], any number of clauses. -/
namespace BR
open PySem PySem.Spec PyProof.Rows L2
theorem ps_setL {X : Cx} {i : Nat} {y : Str} {py : Pos} {elt tg iter : Expr} {ifs : List Expr} {rest : List Comprehension} {scope : Scope} {own : List (Str × Nat)} {vs' : List Nat} {pos spos : Pos} {wi : TI} {g : TG} {tt : TT} {tB : Addr → TB} (hc : X.calm = true) (hN : X.N.Nodup) (hy : X.N[i]? = some y) (hyl : X.env.scope.names.lookup y = some .local)
    (hsw : swapsWith (.ListComp elt (⟨tg, iter, ifs, 0⟩ :: rest) scope pos) (some (.Name y py)) spos.line X.env = pure true) (hi : PI X tg iter wi) (ok : BlkOk X.N X.env.scope scope own) (hv : ∀ i ∈ vs', i ∈ own.map (·.2))
    (hg : ∀ (s : Shared) (H : Hp) (C : Addr) (cl : List (Str × Addr)) (fp : List Addr), PG (X.blk s H scope (compEnvC scope cl C X.env) fp) tg g) (ht : ∀ (s : Shared) (H : Hp) (C : Addr) (cl : List (Str × Addr)) (fp : List Addr), PTs (X.blk s H scope (compEnvC scope cl C X.env) fp) ifs tt)
    (hL : ∀ (s : Shared) (H : Hp) (C : Addr) (cl : List (Str × Addr)) (fp : List Addr) (D : Addr), Lev (X.blk s H scope (compEnvC scope cl C X.env) fp) (deeper (.ListComp elt (⟨tg, iter, ifs, 0⟩ :: rest) scope pos) (⟨tg, iter, ifs, 0⟩ :: rest) (do let _ ← call (.builtin "list.append") [.ref D, ← eval elt (compEnvC scope cl C X.env)]) 1 (.ref D) (compEnvC scope cl C X.env)) vs' (tB D))
    (hs : ∀ x, foldedSetIterable iter X.env x = pure x) :
    PS X (.Assign [.Name y py] (.ListComp elt (⟨tg, iter, ifs, 0⟩ :: rest) scope pos) spos) (tAsg (tComp (fun _ => .lst []) wi g tt tB (own.map (·.2))) (gName i)) := by
  refine ⟨fun pins s σ H D I h => ?_⟩
  rw [exec_Assign_Name_used _ _ _ _ hsw]
  refine wpAny_bind (wpAny_standAt (wpAny_bind ?_))
  show wpAny _ X.A (do let _ ← comprehension (.ListComp elt (⟨tg, iter, ifs, 0⟩ :: rest) scope pos) scope X.env (firstIterPos (⟨tg, iter, ifs, 0⟩ :: rest) pos) (newList []) false (eval iter X.env) (some (assign (.Name y py) X.env))) _ _ s
  have h : tComp (fun _ => .lst []) wi g tt tB (own.map (·.2)) σ H (fun x H1 => gName i x σ H1 D.nx) := h
  refine wpAny_bind (thn (core_L (Qf := fun _ s' => SP X pins D .next s') hc hN I hi ok hv hg ht hL hs h fun L C s' m H' I' q hn f => ?_) fun _ s' hq => wpAny_pure (wpAny_pure hq))
  show wpAny _ _ (assign (.Name y py) X.env (.ref L)) _ _ _
  refine wpAny_assign_Name (store_ok2 (v := V.ref L) I' hN hy (.inl hyl) rfl (fun s2 I2 ⟨a, sb, ha⟩ => ?_) (.inr hyl))
  obtain ⟨f0, f1, f2, f3, f4, f5⟩ := f
  have haC : C ≠ a := by
    rcases ha with z | z
    · rw [z]; exact f1
    · exact fun e => f4 y a z e.symm
  refine ⟨m, hn.sameBut sb haC, fun h3 sb3 => ?_⟩
  exact ⟨_, H', I2.turned (t' := s2.toks) (fun b o hb e => (sb3.2 b hb).trans e) f0 f1 f3 f4 f5, q⟩
end BR
/-! BrS: set(xs) of a list of ints; sorted of a set of ints whose members lie among fewer than 64. -/
namespace BR
open PySem PySem.Spec PyProof.Rows L2
section
variable {P : Program} {w : World} {A : Around} {E : Value → Shared → Prop} {s : Shared}
set_option maxRecDepth 100000 in
set_option maxHeartbeats 3200000 in
theorem call_set_lstI {l : Addr} {items : Array Value} (ns : List Int) {Q : Value → Shared → Prop} (hh : A.handled = none) (hl : s.heap.IsList l items) (hit : IntsAre items.toList ns) (hb : ns.length + 1 < scanBound)
    (h : ∀ (h' : Heap) (tk c : Nat), SetR w h' s.heap.objs.size (fun j => decide (j ∈ ns)) c → c ≤ ns.length → (∀ b o, s.heap.get? b = some o → h'.get? b = some o) → Q (.ref s.heap.objs.size) { s with heap := h', toks := tk }) :
    wpAny (model P w) A (call (.type "set") [.ref l]) Q E s := by
  have hisz : items.size = ns.length := by
    have q := IntsAre.length hit
    rw [Array.length_toList] at q
    exact q
  obtain ⟨c, tl, hmro⟩ := F.called_set.mro
  have hmade := F.called_set.made
  have hsub := F.called_set.sub
  refine wpAny_call (codeAny_of_tree ?_)
  show wpAny _ _ (callAny (.type "set") _) _ _ _
  refine wpAny_pure ⟨Code.quiet_builtin _ (by decide +kernel), codeAny_builtin F.entry_type_call ?_⟩
  rw [Around.under_plain (weight_type_call_type "set" [.ref l] []) rfl]
  have h1 := F.called_set.notType
  have h2 := F.called_set.canCreate
  have hct := F.typeCall_set_1 (.ref l)
  repeat (any_goals (first | assumption | wp_step))

  refine codeAny_mono (code_set_led1 (.ref l) (E := E) (Q₁ := fun obj s₁ => obj = .ref s.heap.objs.size ∧ s₁ = { s with heap := s.heap.push { cls := .type "set", dict := none, data := .set #[] 0 (.fresh 0 0 (!w.params.followText "set-order")) } }) ⟨rfl, rfl⟩) fun r s₁ hr => ?_
  cases r with
  | error e => exact hr
  | ok fl =>
    cases fl with
    | ret obj =>
      obtain ⟨rfl, rfl⟩ := hr
      have hS : (s.heap.push { cls := .type "set", dict := none, data := .set #[] 0 (.fresh 0 0 (!w.params.followText "set-order")) }).get? s.heap.objs.size = some { cls := .type "set", dict := none, data := .set #[] 0 (.fresh 0 0 (!w.params.followText "set-order")) } := Heap.get?_push_size _ rfl
      have hT : Shared.TypeIs { s with heap := s.heap.push { cls := .type "set", dict := none, data := .set #[] 0 (.fresh 0 0 (!w.params.followText "set-order")) } } (.ref s.heap.objs.size) "set" := ⟨_, hS, rfl⟩
      have hli := F.called_set.init.lookup
      have hbi := F.called_set.init.bind (.ref s.heap.objs.size)
      repeat (any_goals (first | assumption | wp_step))

      refine codeAny_mono (codeAny_call_builtin (R := wants (fun r s₂ => r = .none ∧ ∃ h' tk c, s₂ = { s with heap := h', toks := tk } ∧ SetR w h' s.heap.objs.size (fun j => decide (j ∈ ns)) c ∧ c ≤ ns.length ∧
          (∀ b o, s.heap.get? b = some o → h'.get? b = some o)) E) F.called_set.init.plain F.entry_set_init (check_set_init_1 hT ?_)) fun r₂ s₂ hr₂ => ?_
      · obtain ⟨ol, hol, hcl, nl, hdl⟩ := hl
        obtain ⟨ocls, odict, odata, oslots⟩ := ol
        simp only at hcl hdl
        subst hcl; subst hdl
        have hol' : (s.heap.push { cls := .type "set", dict := none, data := .set #[] 0 (.fresh 0 0 (!w.params.followText "set-order")) }).get? l = some { cls := .type "list", dict := odict, data := .seq items nl, slots := oslots } := Heap.get?_push_of_some _ hol
        have hsls := F.sub_list_set
        have hslf := F.sub_list_frozenset
        have hne : (Value.type "list" == Value.type "dict") = false := by decide
        have hl1 : (s.heap.push { cls := .type "set", dict := none, data := .set #[] 0 (.fresh 0 0 (!w.params.followText "set-order")) }).IsList l items := ⟨_, hol', rfl, nl, rfl⟩
        unfold Builtin.«set.__init__» noKeywords Builtin.Frozenset.updateFrom
        generalize hPI : pyIter = PI
        wp_walk
        subst hPI

        refine wpAny_pyIter_list hl1 ?_
        refine wpAny_bind (wpAny_runValue ?_)
        have hlS : l < s.heap.objs.size := Heap.lt_size hol
        have hh3 : A.in1.in1.in1.handled = none := by simp [hh]
        have hz1 : (s.heap.push { cls := .type "set", dict := none, data := .set #[] 0 (.fresh 0 0 (!w.params.followText "set-order")) }).objs.size = s.heap.objs.size + 1 := Heap.size_push ..
        have hneI : l ≠ (s.heap.push { cls := .type "set", dict := none, data := .set #[] 0 (.fresh 0 0 (!w.params.followText "set-order")) }).objs.size := by
          rw [Heap.size_push]; exact Nat.ne_of_lt (Nat.lt_succ_of_lt hlS)
        have hSf : s.heap.objs.size ∉ [(s.heap.push { cls := .type "set", dict := none, data := .set #[] 0 (.fresh 0 0 (!w.params.followText "set-order")) }).objs.size, l] := by
          rw [Heap.size_push]; simp only [List.mem_cons, List.mem_singleton, List.not_mem_nil, or_false, not_or]
          exact ⟨Nat.ne_of_lt (Nat.lt_succ_self _), Nat.ne_of_gt hlS⟩
        have hval : ∀ (i : Nat) (v : Value), items[i]? = some v → ∃ k t, ns[i]? = some k ∧ v = .int k t := fun i v hv => by
          have hi : i < ns.length := by rw [← hisz]; exact (Array.getElem?_eq_some_iff.mp hv).1
          obtain ⟨t, e⟩ := PyProof.Rows.IntsAre.int_at hit i v (by rw [Array.getElem?_toList]; exact hv)
          refine ⟨ns[i], t, List.getElem?_eq_getElem hi, ?_⟩
          rw [e, List.getD_eq_getElem?_getD, List.getElem?_eq_getElem hi] <;> rfl
        refine set_update_ints ((Walks.list hh3 _ l hneI items).toS) s.heap.objs.size
          hSf ns hisz hb hval (items.size - 0) 0 _ (by omega) (Nat.zero_le _)
          ⟨⟨_, Heap.get?_push_size _ rfl, rfl, rfl⟩, (hl1.push _)⟩ ?hS0 ?hR
        case hS0 =>
          have hget : ((s.heap.push { cls := .type "set", dict := none, data := .set #[] 0 (.fresh 0 0 (!w.params.followText "set-order")) }).push { cls := .type "list_iterator", data := .fields #[.ref l, .int 0 0] }).get? s.heap.objs.size
              = some { cls := .type "set", dict := none, data := .set #[] 0 (.fresh 0 0 (!w.params.followText "set-order")) } := Heap.get?_push_of_some _ hS
          exact ⟨0, Nat.le_refl 0, setR_new_at hget⟩
        case hR =>
          intro s' c' hm hc' hS'
          obtain ⟨h', g2, d', tk', os'⟩ := s'
          have eg : g2 = s.gens := hm.gens
          have ed : d' = s.drawn := hm.drawn
          have eo : os' = s.os := hm.os
          subst eg; subst ed; subst eo
          show wpAny _ _ _ _ _ _
          refine wpAny_pure ?_
          show wpAny _ _ (ret Value.none) _ _ _
          rw [hisz] at hc'
          refine wpAny_pure ⟨rfl, h', tk', c', rfl, hS', hc', fun b o e => ?_⟩
          have hb0 : b < s.heap.objs.size := Heap.lt_size e
          have hb1 : b ≠ s.heap.objs.size := Nat.ne_of_lt hb0
          have hb2 : b ≠ (s.heap.push { cls := .type "set", dict := none, data := .set #[] 0 (.fresh 0 0 (!w.params.followText "set-order")) }).objs.size := by
            rw [Heap.size_push]; exact Nat.ne_of_lt (Nat.lt_succ_of_lt hb0)
          exact hm.heap b o (by simp only [List.mem_cons, List.mem_singleton, List.not_mem_nil, or_false, not_or]; exact ⟨hb1, hb2⟩) (Heap.get?_push_of_some _ (Heap.get?_push_of_some _ e))

      · cases r₂ with
        | error e => exact hr₂
        | ok fl₂ =>
          cases fl₂ with
          | ret r =>
            obtain ⟨rfl, h', tk, c', rfl, hS', hc', hk'⟩ := hr₂
            repeat (any_goals (first | assumption | wp_step))
            exact h _ _ _ hS' hc' hk'
          | _ => exact hr₂.elim
    | _ => exact hr.elim

end
theorem setR_keys {w : World} {h : Heap} {a : Addr} {S : Int → Bool} {n : Nat} (R : SetR w h a S n) : ∃ L : List Int, L.Nodup ∧ L.length = n ∧ ∀ k, S k = true ↔ k ∈ L := by
  obtain ⟨o, es, ep, t, _, _, _, _, nd, hm, _, _, hn, _⟩ := R
  exact ⟨es.toList.map keyOf, nd, by simpa using hn, hm⟩
theorem nodup_le : ∀ {L B : List Int}, L.Nodup → (∀ k ∈ L, k ∈ B) → L.length ≤ B.length
  | [], _, _, _ => Nat.zero_le _
  | a :: L, B, nd, hs => by
    obtain ⟨h1, h2⟩ := List.nodup_cons.mp nd
    have ha : a ∈ B := hs a List.mem_cons_self
    have ih := nodup_le (L := L) (B := B.erase a) h2 fun k hk => (List.mem_erase_of_ne (fun e => h1 (by rw [← e]; exact hk))).mpr (hs k (List.mem_cons_of_mem _ hk))
    rw [List.length_erase_of_mem ha] at ih
    have hp : 0 < B.length := List.length_pos_of_mem ha
    rw [List.length_cons]
    omega
section
variable {X : Cx}
/-- set(xs), xs a list of ints -/
def rSetOfI (K : PySem.W.Frag) (w : World) : List V → Hp → VK → Prop := fun xs H Q => ∃ (l : Addr) (ns : List Int), xs = [V.ref l] ∧ SqL K H l (ns.map V.int) ∧ ns.length ≤ 1000 ∧
  ∀ a n, H a = none → Q (.ref a) (upd H a (SetO w a (fun j => decide (j ∈ ns)) n))
theorem cr_setOfI (hc : X.calm = true) : CallR X (.type "set") (rSetOfI X.K X.w) := by
  intro pins s σ H xs us Q I r h
  obtain ⟨l, ns, rfl, hl, hf, q⟩ := h
  rw [Vals.ref1 r]
  obtain ⟨its, rv, pl, hz⟩ := I.list hl
  have hn : H s.heap.objs.size = none := I.hok.fresh (Nat.le_refl _)
  have hi : IntsAre its.toArray.toList ns := by simpa using Vals.ints rv
  refine call_set_lstI ns (I.ok.hd hc) pl.isList hi (Nat.lt_of_le_of_lt (Nat.succ_le_succ hf) (by decide)) fun h' tk c R hc k => ?_
  exact ⟨.ref s.heap.objs.size, upd H s.heap.objs.size (SetO X.w s.heap.objs.size (fun j => decide (j ∈ ns)) c), I.laid (t' := tk) k (Nat.le_refl _) (setO_new R), rfl, q _ c hn⟩
/-- sorted(s), the members among fewer than 64 -/
def rSortedB (w : World) : List V → Hp → VK → Prop := fun vs H Q => ∃ (a : Addr) (S : Int → Bool) (n : Nat) (B : List Int), vs = [V.ref a] ∧ H a = some (SetO w a S n) ∧ B.length < 64 ∧ (∀ k, S k = true → k ∈ B) ∧
  ∀ (ns : List Int) (p : Addr), ns.Pairwise (· < ·) → (∀ k : Int, k ∈ ns ↔ S k = true) → H p = none → Q (.ref p) (upd H p (.lst (ns.map V.int)))
theorem cr_sortedB (hc : X.calm = true) : CallR X (.builtin "sorted") (rSortedB X.w) := by
  intro pins s σ H vs us Q I r h
  obtain ⟨a, S, n, B, rfl, ha, hB, hS, q⟩ := h
  obtain ⟨L, nd, hL, hm⟩ := setR_keys (setO_get I ha)
  have hn : n < 64 := by
    have := nodup_le nd fun k hk => hS k ((hm k).mpr hk)
    omega
  exact cr_sortedSet hc pins s σ H _ us Q I r ⟨a, S, n, rfl, ha, hn, fun ns p h1 h2 _ h4 => q ns p h1 h2 h4⟩
end
end BR
/-! BrF: data (Dt), what reads as them (Rp), the state by data (En), the judgements by data (Ev, EvT, EvA, EvN; SD, SDs). -/
namespace BR
open PySem PySem.Spec PyProof.Rows L2

/-! ### a dict keyed by pairs of squares -/
abbrev Sq2 := (Int × Int) × (Int × Int)
def nk2 (k : Sq2) : NestedKey := .tup [.tup [.num k.1.1, .num k.1.2], .tup [.num k.2.1, .num k.2.2]]
/-- the dict at a, by its entries alone -/
def NdO (w : World) (a : Addr) (xs : List (NestedKey × Addr × Value)) : HO := .ext fun h => ∃ o es ep, h.get? a = some o ∧ o.ExactDict ∧ o.data = .dict es ep ∧ es.toList = xs.map (fun x => { hash := x.1.hash w, key := .ref x.2.1, val := x.2.2 }) ∧ (xs.map (·.1)).Nodup
def vOI : Option Int → V
  | none => .non
  | some i => .int i
/-- the key's tuples stand -/
def Key2 (F : Hp) (b : Addr) (k : Sq2) : Prop := ∃ b1 b2, F b = some (.tup [.ref b1, .ref b2]) ∧ F b1 = some (.tup [.int k.1.1, .int k.1.2]) ∧ F b2 = some (.tup [.int k.2.1, .int k.2.2])
abbrev NdR (F : Hp) : List (Sq2 × Option Int) → List (NestedKey × Addr × Value) → Prop := Paired fun e x => x.1 = nk2 e.1 ∧ Key2 F x.2.1 e.1 ∧ RelV (vOI e.2) x.2.2
theorem Key2.to {F F' : Hp} {b : Addr} {k : Sq2} (h : Key2 F b k) (e : Same F F') : Key2 F' b k := by
  obtain ⟨b1, b2, h1, h2, h3⟩ := h
  exact ⟨b1, b2, e _ _ h1, e _ _ h2, e _ _ h3⟩
theorem NdR.to {F F' : Hp} {es : List (Sq2 × Option Int)} {xs : List (NestedKey × Addr × Value)} (h : NdR F es xs) (e : Same F F') : NdR F' es xs := Paired.mapP h fun _ _ z => ⟨z.1, z.2.1.to e, z.2.2⟩
/-! ### data -/
inductive Dt where
  | non | bl (b : Bool) | int (i : Int) | str (x : Str)
  /-- the thing at an address: a class; an object that changes -/
  | ref (a : Addr)
  /-- a built-in type -/
  | ty (n : String)
  | tup (l : List Dt) | lst (l : List Dt)
  /-- a region: its form, whether it is outside -/
  | reg (f : Dt) (o : Bool)
  /-- a dict whose keys are tuples of ints -/
  | dct (ks : List (List Key)) (l : List Dt)
  | lck (ks : List (List Key)) (l : List Dt)
  /-- a set of ints, at the address a (only as an object that changes) -/
  | st (w : World) (a : Addr) (ks : List Int)
  /-- a list of ints from outside -/
  | scr (K : PySem.W.Frag) (ns : List Int)
  /-- a dict keyed by pairs of squares, at the address a (only as an object that changes) -/
  | nd (w : World) (a : Addr) (es : List (Sq2 × Option Int))
theorem same_new {H : Hp} {p : Addr} {o : HO} (h : H p = none) : Same H (upd H p o) := fun a u e => by
  rw [upd_ne (ne_of_none e h)]
  exact e
theorem same_mut {H H' : Hp} {p : Addr} {o : HO} (e : Same H H') (h : H p = none) : Same H (upd H' p o) := fun a u ha => by
  rw [upd_ne (ne_of_none ha h)]
  exact e a u ha
/-- the attributes of a region -/
def rgF (v : V) (o : Bool) : List (Str × V) := putF "is_outside" (.bl o) (putF "form" v [])

mutual
inductive Rp (C : Addr) (H : Hp) : V → Dt → Prop
  | non : Rp C H .non .non
  | bl (b : Bool) : Rp C H (.bl b) (.bl b)
  | int (i : Int) : Rp C H (.int i) (.int i)
  | str (x : Str) : Rp C H (.str x) (.str x)
  | ref (a : Addr) : Rp C H (.ref a) (.ref a)
  | ty (n : String) : Rp C H (.ty n) (.ty n)
  | lst {a : Addr} {xs : List V} {ds : List Dt} : H a = some (.lst xs) → RpAll C H xs ds → Rp C H (.ref a) (.lst ds)
  | tup {a : Addr} {xs : List V} {ds : List Dt} : H a = some (.tup xs) → RpAll C H xs ds → Rp C H (.ref a) (.tup ds)
  | reg {a dx : Addr} {v : V} {f : Dt} {o : Bool} : H a = some (.ins C dx (rgF v o)) → Rp C H v f → Rp C H (.ref a) (.reg f o)
  | dct {a : Addr} {kvs : List (List Key × V)} {ds : List Dt} : Rd H a (.dT kvs) → RpAll C H (kvs.map (·.2)) ds → Rp C H (.ref a) (.dct (kvs.map (·.1)) ds)
  | lck {a : Addr} {o : Obj} {kvs : List (List Key × V)} {ds : List Dt} : H a = some (.frz o (.dT kvs)) → RpAll C H (kvs.map (·.2)) ds → Rp C H (.ref a) (.lck (kvs.map (·.1)) ds)
  | scr {K : PySem.W.Frag} {a : Addr} {ns : List Int} : SqL K H a (ns.map V.int) → Rp C H (.ref a) (.scr K ns)
inductive RpAll (C : Addr) (H : Hp) : List V → List Dt → Prop
  | nil : RpAll C H [] []
  | cons {v : V} {vs : List V} {d : Dt} {ds : List Dt} : Rp C H v d → RpAll C H vs ds → RpAll C H (v :: vs) (d :: ds)
end

section
variable {C : Addr} {H H' : Hp}
mutual
theorem Rp.ex (e : Same H H') : ∀ (d : Dt) {v : V}, Rp C H v d → Rp C H' v d
  | .non, _, h => by cases h; exact .non
  | .bl b, _, h => by cases h; exact .bl b
  | .int i, _, h => by cases h; exact .int i
  | .str x, _, h => by cases h; exact .str x
  | .ref x, _, h => by cases h; exact .ref x
  | .ty x, _, h => by cases h; exact .ty x
  | .tup ds, _, h => by
    cases h with
    | tup hs ha => exact .tup (e _ _ hs) (RpAll.ex e ds ha)
  | .lst ds, _, h => by
    cases h with
    | lst hs ha => exact .lst (e _ _ hs) (RpAll.ex e ds ha)
  | .reg f o, _, h => by
    cases h with
    | reg hs ha => exact .reg (e _ _ hs) (Rp.ex e f ha)
  | .dct ks ds, _, h => by
    cases h with
    | dct hs ha => exact .dct (hs.elim (fun z => .inl (e _ _ z)) fun ⟨o, z⟩ => .inr ⟨o, e _ _ z⟩) (RpAll.ex e ds ha)
  | .lck ks ds, _, h => by
    cases h with
    | lck hs ha => exact .lck (e _ _ hs) (RpAll.ex e ds ha)
  | .st _ _ _, _, h => by cases h
  | .nd _ _ _, _, h => by cases h
  | .scr K ns, _, h => by
    cases h with
    | scr hs => exact .scr (hs.elim (fun z => .inl (z.elim (fun z => .inl (e _ _ z)) fun ⟨o, z⟩ => .inr ⟨o, e _ _ z⟩)) .inr)
theorem RpAll.ex (e : Same H H') : ∀ (ds : List Dt) {vs : List V}, RpAll C H vs ds → RpAll C H' vs ds
  | [], _, h => by cases h; exact .nil
  | d :: ds, _, h => by
    cases h with
    | cons h1 h2 => exact .cons (Rp.ex e d h1) (RpAll.ex e ds h2)
end
theorem Rp.to {d : Dt} {v : V} (h : Rp C H v d) (e : Same H H') : Rp C H' v d := Rp.ex e d h
theorem RpAll.to {ds : List Dt} {vs : List V} (h : RpAll C H vs ds) (e : Same H H') : RpAll C H' vs ds := RpAll.ex e ds h

/-! data without lists and dicts stand while tuples and regions stand -/
mutual
def noL : Dt → Bool
  | .non | .bl _ | .int _ | .str _ | .ref _ | .ty _ => true
  | .tup ds => noLs ds
  | .lst _ => false
  | .reg f _ => noL f
  | .dct _ _ => false
  | .lck _ _ => false
  | .st _ _ _ => false
  | .scr _ _ => false
  | .nd _ _ _ => false
def noLs : List Dt → Bool
  | [] => true
  | d :: ds => noL d && noLs ds
end
/-- tuples and regions stand -/
structure TSame (H H' : Hp) : Prop where
  t : ∀ a xs, H a = some (.tup xs) → H' a = some (.tup xs)
  r : ∀ a D dx fs, H a = some (.ins D dx fs) → H' a = some (.ins D dx fs)
mutual
theorem Rp.tx (e : TSame H H') : ∀ (d : Dt) {v : V}, noL d = true → Rp C H v d → Rp C H' v d
  | .non, _, _, h => by cases h; exact .non
  | .bl b, _, _, h => by cases h; exact .bl b
  | .int i, _, _, h => by cases h; exact .int i
  | .str x, _, _, h => by cases h; exact .str x
  | .ref x, _, _, h => by cases h; exact .ref x
  | .ty x, _, _, h => by cases h; exact .ty x
  | .tup ds, _, n, h => by
    cases h with
    | tup hs ha => exact .tup (e.t _ _ hs) (RpAll.tx e ds (by simpa [noL] using n) ha)
  | .lst ds, _, n, h => by simp [noL] at n
  | .dct ks ds, _, n, h => by simp [noL] at n
  | .lck ks ds, _, n, h => by simp [noL] at n
  | .st _ _ _, _, n, h => by simp [noL] at n
  | .scr _ _, _, n, h => by simp [noL] at n
  | .nd _ _ _, _, n, h => by simp [noL] at n
  | .reg f o, _, n, h => by
    cases h with
    | reg hs ha => exact .reg (e.r _ _ _ _ hs) (Rp.tx e f (by simpa [noL] using n) ha)
theorem RpAll.tx (e : TSame H H') : ∀ (ds : List Dt) {vs : List V}, noLs ds = true → RpAll C H vs ds → RpAll C H' vs ds
  | [], _, _, h => by cases h; exact .nil
  | d :: ds, _, n, h => by
    have n' : noL d = true ∧ noLs ds = true := by simpa [noLs] using n
    cases h with
    | cons h1 h2 => exact .cons (Rp.tx e d n'.1 h1) (RpAll.tx e ds n'.2 h2)
end
theorem noLs_map {α : Type} {f : α → Dt} (h : ∀ a, noL (f a) = true) : ∀ l : List α, noLs (l.map f) = true
  | [] => by simp [noLs]
  | a :: l => by simp [noLs, h a, noLs_map h l]
theorem noLs_iff : ∀ {l : List Dt}, noLs l = true ↔ ∀ d ∈ l, noL d = true
  | [] => by simp [noLs]
  | d :: l => by simp [noLs, noLs_iff (l := l)]

/-! ### lists of values -/
theorem RpAll.length : ∀ {vs : List V} {ds : List Dt}, RpAll C H vs ds → vs.length = ds.length
  | [], [], _ => rfl
  | v :: vs, d :: ds, h => by
    cases h with
    | cons _ h2 => simp [h2.length]
theorem RpAll.get : ∀ {vs : List V} {ds : List Dt} {i : Nat} {v : V}, RpAll C H vs ds → vs[i]? = some v → ∃ d, ds[i]? = some d ∧ Rp C H v d
  | [], [], i, v, _, h => by simp at h
  | u :: vs, d :: ds, i, v, h, hv => by
    cases h with
    | cons h1 h2 =>
      cases i with
      | zero =>
        simp at hv
        subst hv
        exact ⟨d, rfl, h1⟩
      | succ i =>
        obtain ⟨d', e, r⟩ := h2.get (i := i) (v := v) (by simpa using hv)
        exact ⟨d', by simpa using e, r⟩
theorem RpAll.at : ∀ {vs : List V} {ds : List Dt} {i : Nat} {d : Dt}, RpAll C H vs ds → ds[i]? = some d → ∃ v, vs[i]? = some v ∧ Rp C H v d
  | [], [], i, v, _, h => by simp at h
  | u :: vs, d' :: ds, i, d, h, hv => by
    cases h with
    | cons h1 h2 =>
      cases i with
      | zero =>
        simp at hv
        subst hv
        exact ⟨u, rfl, h1⟩
      | succ i =>
        obtain ⟨d2, e, r⟩ := h2.at (i := i) (d := d) (by simpa using hv)
        exact ⟨d2, by simpa using e, r⟩
theorem RpAll.append : ∀ {vs : List V} {ds : List Dt} {us : List V} {es : List Dt}, RpAll C H vs ds → RpAll C H us es → RpAll C H (vs ++ us) (ds ++ es)
  | [], [], _, _, _, h => h
  | v :: vs, d :: ds, _, _, h, h' => by
    cases h with
    | cons h1 h2 => exact .cons h1 (h2.append h')
theorem RpAll.snoc {vs : List V} {ds : List Dt} {v : V} {d : Dt} (h : RpAll C H vs ds) (h' : Rp C H v d) : RpAll C H (vs ++ [v]) (ds ++ [d]) := h.append (.cons h' .nil)
theorem RpAll.take : ∀ (n : Nat) {vs : List V} {ds : List Dt}, RpAll C H vs ds → RpAll C H (vs.take n) (ds.take n)
  | 0, _, _, _ => by simpa using RpAll.nil
  | n + 1, [], [], _ => by simpa using RpAll.nil
  | n + 1, v :: vs, d :: ds, h => by
    cases h with
    | cons h1 h2 => exact .cons h1 (RpAll.take n h2)
theorem RpAll.drop : ∀ (n : Nat) {vs : List V} {ds : List Dt}, RpAll C H vs ds → RpAll C H (vs.drop n) (ds.drop n)
  | 0, _, _, h => by simpa using h
  | n + 1, [], [], _ => by simpa using RpAll.nil
  | n + 1, v :: vs, d :: ds, h => by
    cases h with
    | cons h1 h2 => simpa using RpAll.drop n h2
theorem RpAll.reverse : ∀ {vs : List V} {ds : List Dt}, RpAll C H vs ds → RpAll C H vs.reverse ds.reverse
  | [], [], _ => .nil
  | v :: vs, d :: ds, h => by
    cases h with
    | cons h1 h2 =>
      rw [List.reverse_cons, List.reverse_cons]
      exact h2.reverse.snoc h1
theorem RpAll.set : ∀ (i : Nat) {vs : List V} {ds : List Dt} {v : V} {d : Dt}, RpAll C H vs ds → Rp C H v d → RpAll C H (vs.set i v) (ds.set i d)
  | _, [], [], _, _, _, _ => by simpa using RpAll.nil
  | 0, u :: vs, e :: ds, v, d, h, h' => by
    cases h with
    | cons h1 h2 => exact .cons h' h2
  | i + 1, u :: vs, e :: ds, v, d, h, h' => by
    cases h with
    | cons h1 h2 => exact .cons h1 (RpAll.set i h2 h')
theorem RpAll.ints : ∀ {vs : List V} {ns : List Int}, RpAll C H vs (ns.map Dt.int) → vs = ns.map V.int
  | [], [], _ => rfl
  | v :: vs, n :: ns, h => by
    cases h with
    | cons h1 h2 =>
      cases h1
      rw [h2.ints]
      rfl
theorem rp_ints : ∀ ns : List Int, RpAll C H (ns.map V.int) (ns.map Dt.int)
  | [] => .nil
  | n :: ns => .cons (.int n) (rp_ints ns)
theorem RpAll.bls : ∀ {vs : List V} {ns : List Bool}, RpAll C H vs (ns.map Dt.bl) → vs = ns.map V.bl
  | [], [], _ => rfl
  | v :: vs, n :: ns, h => by
    cases h with
    | cons h1 h2 =>
      cases h1
      rw [h2.bls]
      rfl
theorem Rp.inj_int {v : V} {i : Int} (h : Rp C H v (.int i)) : v = .int i := by cases h; rfl
theorem Rp.inj_bl {v : V} {i : Bool} (h : Rp C H v (.bl i)) : v = .bl i := by cases h; rfl
theorem Rp.inj_str {v : V} {i : Str} (h : Rp C H v (.str i)) : v = .str i := by cases h; rfl
theorem Rp.inj_non {v : V} (h : Rp C H v .non) : v = .non := by cases h; rfl
theorem Rp.inj_tup {v : V} {ds : List Dt} (h : Rp C H v (.tup ds)) : ∃ a xs, v = .ref a ∧ H a = some (.tup xs) ∧ RpAll C H xs ds := by
  cases h with
  | tup h1 h2 => exact ⟨_, _, rfl, h1, h2⟩
theorem Rp.inj_lst {v : V} {ds : List Dt} (h : Rp C H v (.lst ds)) : ∃ a xs, v = .ref a ∧ H a = some (.lst xs) ∧ RpAll C H xs ds := by
  cases h with
  | lst h1 h2 => exact ⟨_, _, rfl, h1, h2⟩
theorem Rp.inj_reg {v : V} {f : Dt} {o : Bool} (h : Rp C H v (.reg f o)) : ∃ a dx u, v = .ref a ∧ H a = some (.ins C dx (rgF u o)) ∧ Rp C H u f := by
  cases h with
  | reg h1 h2 => exact ⟨_, _, _, rfl, h1, h2⟩

theorem Rp.inj_ref {v : V} {a : Addr} (h : Rp C H v (.ref a)) : v = .ref a := by cases h; rfl
theorem Rp.inj_dct {v : V} {ks : List (List Key)} {ds : List Dt} (h : Rp C H v (.dct ks ds)) : ∃ a kvs, v = .ref a ∧ Rd H a (.dT kvs) ∧ kvs.map (·.1) = ks ∧ RpAll C H (kvs.map (·.2)) ds := by
  cases h with
  | dct h1 h2 => exact ⟨_, _, rfl, h1, rfl, h2⟩
theorem Rp.inj_lck {v : V} {ks : List (List Key)} {ds : List Dt} (h : Rp C H v (.lck ks ds)) : ∃ a o kvs, v = .ref a ∧ H a = some (.frz o (.dT kvs)) ∧ kvs.map (·.1) = ks ∧ RpAll C H (kvs.map (·.2)) ds := by
  cases h with
  | lck h1 h2 => exact ⟨_, _, _, rfl, h1, rfl, h2⟩
theorem Rp.inj_scr {v : V} {K : PySem.W.Frag} {ns : List Int} (h : Rp C H v (.scr K ns)) : ∃ a, v = .ref a ∧ SqL K H a (ns.map V.int) := by
  cases h with
  | scr h1 => exact ⟨_, rfl, h1⟩
theorem Rp.unl {v : V} {ks : List (List Key)} {ds : List Dt} (h : Rp C H v (.lck ks ds)) : Rp C H v (.dct ks ds) := by
  cases h with
  | lck h1 h2 => exact .dct (.inr ⟨_, h1⟩) h2
theorem RpAll.nil_inv {xs : List V} (h : RpAll C H xs []) : xs = [] := by cases h; rfl
theorem RpAll.cons_inv {xs : List V} {d : Dt} {ds : List Dt} (h : RpAll C H xs (d :: ds)) : ∃ v vs, xs = v :: vs ∧ Rp C H v d ∧ RpAll C H vs ds := by
  cases h with
  | cons h1 h2 => exact ⟨_, _, rfl, h1, h2⟩
theorem RpAll.one {xs : List V} {d : Dt} (h : RpAll C H xs [d]) : ∃ v, xs = [v] ∧ Rp C H v d := by
  obtain ⟨v, _, rfl, r, h⟩ := h.cons_inv
  obtain rfl := h.nil_inv
  exact ⟨v, rfl, r⟩
theorem RpAll.two {xs : List V} {d e : Dt} (h : RpAll C H xs [d, e]) : ∃ v u, xs = [v, u] ∧ Rp C H v d ∧ Rp C H u e := by
  obtain ⟨v, _, rfl, r, h⟩ := h.cons_inv
  obtain ⟨u, rfl, r2⟩ := h.one
  exact ⟨v, u, rfl, r, r2⟩
theorem RpAll.three {xs : List V} {d e f : Dt} (h : RpAll C H xs [d, e, f]) : ∃ v u z, xs = [v, u, z] ∧ Rp C H v d ∧ Rp C H u e ∧ Rp C H z f := by
  obtain ⟨v, _, rfl, r, h⟩ := h.cons_inv
  obtain ⟨u, z, rfl, r2⟩ := h.two
  exact ⟨v, u, z, rfl, r, r2⟩
theorem RpAll.four {xs : List V} {d e f g : Dt} (h : RpAll C H xs [d, e, f, g]) : ∃ v u z y, xs = [v, u, z, y] ∧ Rp C H v d ∧ Rp C H u e ∧ Rp C H z f ∧ Rp C H y g := by
  obtain ⟨v, _, rfl, r, h⟩ := h.cons_inv
  obtain ⟨u, z, y, rfl, r2⟩ := h.three
  exact ⟨v, u, z, y, rfl, r, r2⟩

/-! ### the kit's data, without regions -/
mutual
def toPy : Dt → PyData
  | .non => .none
  | .bl b => .bool b
  | .int i => .int i
  | .str x => .str x
  | .tup ds => .tuple (toPys ds)
  | .lst ds => .list (toPys ds)
  | .reg _ _ | .ref _ | .ty _ | .dct _ _ | .lck _ _ | .st _ _ _ | .scr _ _ | .nd _ _ _ => .none
def toPys : List Dt → List PyData
  | [] => []
  | d :: ds => toPy d :: toPys ds
end
mutual
def noR : Dt → Bool
  | .non | .bl _ | .int _ | .str _ => true
  | .tup ds => noRs ds
  | .lst ds => noRs ds
  | .reg _ _ | .ref _ | .ty _ | .dct _ _ | .lck _ _ | .st _ _ _ | .scr _ _ | .nd _ _ _ => false
def noRs : List Dt → Bool
  | [] => true
  | d :: ds => noR d && noRs ds
end
mutual
theorem Rp.dp {K : PySem.W.Frag} : ∀ (d : Dt) {v : V}, noR d = true → Rp C H v d → Dp K H v (toPy d)
  | .non, _, _, h => by cases h; exact .non
  | .bl b, _, _, h => by cases h; exact .bl b
  | .int i, _, _, h => by cases h; exact .int i
  | .str x, _, _, h => by cases h; exact .str x
  | .tup ds, _, n, h => by
    cases h with
    | tup hs ha => exact .tup (.of hs) (RpAll.dp ds (by simpa [noR] using n) ha)
  | .lst ds, _, n, h => by
    cases h with
    | lst hs ha => exact .lst (.of hs) (RpAll.dp ds (by simpa [noR] using n) ha)
  | .reg f o, _, n, h => by simp [noR] at n
  | .ref x, _, n, h => by simp [noR] at n
  | .ty x, _, n, h => by simp [noR] at n
  | .dct ks ds, _, n, h => by simp [noR] at n
  | .lck ks ds, _, n, h => by simp [noR] at n
  | .st _ _ _, _, n, h => by simp [noR] at n
  | .scr _ _, _, n, h => by simp [noR] at n
  | .nd _ _ _, _, n, h => by simp [noR] at n
theorem RpAll.dp {K : PySem.W.Frag} : ∀ (ds : List Dt) {vs : List V}, noRs ds = true → RpAll C H vs ds → DpAll K H vs (toPys ds)
  | [], _, _, h => by cases h; exact .nil
  | d :: ds, _, n, h => by
    have n' : noR d = true ∧ noRs ds = true := by simpa [noRs] using n
    cases h with
    | cons h1 h2 => exact .cons (Rp.dp d n'.1 h1) (RpAll.dp ds n'.2 h2)
end
end


/-! ### heaps that grow: H all of it, F the part that stands for good -/
/-- an object there, no tuple -/
def Solid (o : Option HO) : Prop := ∃ u, o = some u ∧ ∀ xs, u ≠ .tup xs
theorem Solid.ne {o : Option HO} (h : Solid o) : o ≠ none := by
  obtain ⟨u, rfl, _⟩ := h
  exact fun z => nomatch z
theorem Solid.same {H H' : Hp} {a : Addr} (e : Same H H') (h : Solid (H a)) : Solid (H' a) := by
  obtain ⟨u, h1, h2⟩ := h
  exact ⟨u, e _ _ h1, h2⟩
structure Ext (F H F' H' : Hp) : Prop where
  h : Same H H'
  f : Same F F'
  fh : Same F' H'
  old : ∀ a, Solid (H a) → F' a = F a
section
variable {F H F1 H1 F2 H2 : Hp} {p : Addr} {o : HO}
theorem Ext.refl (e : Same F H) : Ext F H F H := ⟨.refl _, .refl _, e, fun _ _ => rfl⟩
theorem Ext.trans (a : Ext F H F1 H1) (b : Ext F1 H1 F2 H2) : Ext F H F2 H2 := ⟨a.h.trans b.h, a.f.trans b.f, b.fh, fun x hx => by
  rw [b.old x (hx.same a.h), a.old x hx]⟩
theorem Ext.new (e : Same F H) (h : H p = none) : Ext F H (upd F p o) (upd H p o) := ⟨same_new h, same_new (e.free h), fun b u q => by
  by_cases hb : b = p
  · subst hb; rw [upd_same] at q ⊢; exact q
  · rw [upd_ne hb] at q ⊢; exact e b u q, fun b hb => by
  have hb' : b ≠ p := fun z => hb.ne (by rw [z]; exact h)
  rw [upd_ne hb']⟩
theorem Ext.newH (e : Same F H) (h : H p = none) : Ext F H F (upd H p o) := ⟨same_new h, .refl _, e.trans (same_new h), fun _ _ => rfl⟩
theorem Ext.free (e : Ext F H F1 H1) {l : Addr} (h : H1 l = none) : H l = none := e.h.free h
/-- an object of H alone joins F -/
theorem Ext.join (e : Ext F H F1 H1) (h : H1 p = some o) (hn : H p = none) (hf : F1 p = none) : Ext F H (upd F1 p o) H1 := ⟨e.h, e.f.trans (same_new hf), fun b u q => by
  by_cases hb : b = p
  · subst hb; rw [upd_same] at q; rw [h]; exact q
  · rw [upd_ne hb] at q; exact e.fh b u q, fun b hb => by
  have hb' : b ≠ p := fun z => hb.ne (by rw [z]; exact hn)
  rw [upd_ne hb']
  exact e.old b hb⟩
end

/-! ### the state by data -/
/-- the slots; the objects that change, each at its address -/
abbrev DE := List (Option Dt)
abbrev Mem := List (Addr × Dt)
/-- an object that changes -/
def RepO (C : Addr) (F : Hp) (h : HO) : Dt → Prop
  | .lst ds => ∃ xs, h = .lst xs ∧ RpAll C F xs ds
  | .dct ks ds => ∃ kvs, h = .dT kvs ∧ kvs.map (·.1) = ks ∧ RpAll C F (kvs.map (·.2)) ds
  | .st w a ks => ∃ (S : Int → Bool) (n : Nat), h = SetO w a S n ∧ (∀ k, S k = true ↔ k ∈ ks) ∧ n ≤ ks.length
  | .nd w a es => ∃ xs, h = NdO w a xs ∧ NdR F es xs
  | _ => False
theorem RepO.to {C : Addr} {F F' : Hp} {h : HO} (e : Same F F') : ∀ {d : Dt}, RepO C F h d → RepO C F' h d
  | .lst ds, ⟨xs, h1, h2⟩ => ⟨xs, h1, h2.to e⟩
  | .dct ks ds, ⟨kvs, h1, h2, h3⟩ => ⟨kvs, h1, h2, h3.to e⟩
  | .st w a ks, h => h
  | .nd w a es, ⟨xs, h1, h2⟩ => ⟨xs, h1, h2.to e⟩
theorem RepO.solid {C : Addr} {F : Hp} {h : HO} : ∀ {d : Dt}, RepO C F h d → ∀ xs, h ≠ .tup xs
  | .lst ds, ⟨xs, h1, h2⟩ => by subst h1; exact fun _ z => nomatch z
  | .dct ks ds, ⟨kvs, h1, h2, h3⟩ => by subst h1; exact fun _ z => nomatch z
  | .st w a ks, ⟨S, n, h1, _⟩ => by subst h1; exact fun _ z => nomatch z
  | .nd w a es, ⟨xs, h1, _⟩ => by subst h1; exact fun _ z => nomatch z
/-- it may be read as it stands -/
def vw : Dt → Bool
  | .lst _ | .dct _ _ => true
  | _ => false
theorem RepO.rp {C : Addr} {F : Hp} {h : HO} {p : Addr} (hp : F p = some h) : ∀ {d : Dt}, vw d = true → RepO C F h d → Rp C F (.ref p) d
  | .lst ds, _, ⟨xs, h1, h2⟩ => by subst h1; exact .lst hp h2
  | .dct ks ds, _, ⟨kvs, h1, h2, h3⟩ => by subst h1; subst h2; exact .dct (.inl hp) h3
structure MOk (C : Addr) (F H : Hp) (M : Mem) : Prop where
  m : ∀ (i : Nat) p d, M[i]? = some (p, d) → F p = none ∧ ∃ h, H p = some h ∧ RepO C F h d
  nd : (M.map (·.1)).Nodup
structure En (C : Addr) (F : Hp) (ρ : DE) (M : Mem) (σ : L2.St) (H : Hp) : Prop where
  fh : Same F H
  len : σ.length = ρ.length
  sl : ∀ (i : Nat) d, ρ[i]? = some (some d) → ∃ v, σ[i]? = some (some v) ∧ Rp C F v d
  m : MOk C F H M
section
variable {C : Addr} {F H F1 H1 : Hp} {ρ : DE} {M : Mem} {σ : L2.St}
theorem MOk.ext (I : MOk C F H M) (e : Ext F H F1 H1) : MOk C F1 H1 M := ⟨fun i p d hi => by
  obtain ⟨h1, h, h2, h3⟩ := I.m i p d hi
  exact ⟨by rw [e.old p ⟨h, h2, h3.solid⟩]; exact h1, h, e.h _ _ h2, h3.to e.f⟩, I.nd⟩
theorem En.ext (I : En C F ρ M σ H) (e : Ext F H F1 H1) : En C F1 ρ M σ H1 := ⟨e.fh, I.len, fun i d hi => by
  obtain ⟨v, h1, h2⟩ := I.sl i d hi
  exact ⟨v, h1, h2.to e.f⟩, I.m.ext e⟩
theorem En.set {i : Nat} {v : V} {d : Dt} (I : En C F ρ M σ H) (r : Rp C F v d) : En C F (ρ.set i (some d)) M (σ.set i (some v)) H := ⟨I.fh, by rw [List.length_set, List.length_set]; exact I.len, fun j e hj => by
  by_cases hij : i = j
  · subst hij
    have hl : i < ρ.length := by
      have := (List.getElem?_eq_some_iff.mp hj).1
      rwa [List.length_set] at this
    rw [List.getElem?_set_self hl] at hj
    cases hj
    exact ⟨v, by rw [List.getElem?_set_self (by rw [I.len]; exact hl)], r⟩
  · rw [List.getElem?_set_ne hij] at hj ⊢
    exact I.sl j e hj, I.m⟩
end
/-- fewer slots are known -/
def Le (ρ ρ' : DE) : Prop := ρ.length = ρ'.length ∧ ∀ (i : Nat) d, ρ[i]? = some (some d) → ρ'[i]? = some (some d)
theorem Le.refl {ρ : DE} : Le ρ ρ := ⟨rfl, fun _ _ h => h⟩
theorem Le.trans {a b c : DE} (h : Le a b) (h' : Le b c) : Le a c := ⟨h.1.trans h'.1, fun i d e => h'.2 i d (h.2 i d e)⟩
theorem Le.nil : Le [] [] := .refl
theorem Le.some {d : Dt} {a b : DE} (h : Le a b) : Le (some d :: a) (some d :: b) := ⟨by simp [h.1], fun i e hi => by
  cases i with
  | zero => exact hi
  | succ i => exact h.2 i e hi⟩
theorem Le.none {d : Option Dt} {a b : DE} (h : Le a b) : Le (none :: a) (d :: b) := ⟨by simp [h.1], fun i e hi => by
  cases i with
  | zero => simp at hi
  | succ i => exact h.2 i e hi⟩
theorem En.le {C : Addr} {F H : Hp} {ρ ρ' : DE} {M : Mem} {σ : L2.St} (I : En C F ρ M σ H) (h : Le ρ' ρ) : En C F ρ' M σ H := ⟨I.fh, I.len.trans h.1.symm, fun i d hi => I.sl i d (h.2 i d hi), I.m⟩

/-! ### readings and judgements: expressions -/
def tR (C : Addr) (ρ : DE) (M : Mem) (d : Dt) : TE := fun σ H Q => ∃ F, En C F ρ M σ H ∧ ∀ v F' H', Ext F H F' H' → Rp C F' v d → Q v H'
/-- a new list, not yet part of what stands -/
def tRN (C : Addr) (ρ : DE) (M : Mem) (ds : List Dt) : TE := fun σ H Q => ∃ F, En C F ρ M σ H ∧ ∀ p xs F' H', H p = none → Ext F H F' H' → F' p = none → H' p = some (.lst xs) → RpAll C F' xs ds → Q (.ref p) H'
def tRT (C : Addr) (ρ : DE) (M : Mem) (b : Bool) : TT := fun σ H Q => ∃ F, En C F ρ M σ H ∧ ∀ F' H', Ext F H F' H' → Q b H'
def tRA (C : Addr) (ρ : DE) (M : Mem) (ds : List Dt) : TA := fun σ H Q => ∃ F, En C F ρ M σ H ∧ ∀ vs F' H', Ext F H F' H' → RpAll C F' vs ds → Q vs H'
theorem PE.imp {X : Cx} {e : Expr} {t t' : TE} (h : PE X e t) (k : ∀ σ H Q, t' σ H Q → t σ H Q) : PE X e t' := ⟨fun pins s σ H Q I hw => h.run pins s σ H Q I (k σ H Q hw)⟩
theorem PT.imp {X : Cx} {e : Expr} {t t' : TT} (h : PT X e t) (k : ∀ σ H Q, t' σ H Q → t σ H Q) : PT X e t' := ⟨fun pins s σ H Q I hw => h.run pins s σ H Q I (k σ H Q hw)⟩
theorem PW.imp {X : Cx} {e : Expr} {t t' : TT} (h : PW X e t) (k : ∀ σ H Q, t' σ H Q → t σ H Q) : PW X e t' := ⟨fun wh pins s σ H Q I hw => h.run wh pins s σ H Q I (k σ H Q hw)⟩
theorem PA.imp {X : Cx} {e : List Expr} {t t' : TA} (h : PA X e t) (k : ∀ σ H Q, t' σ H Q → t σ H Q) : PA X e t' := ⟨fun po pins s σ H Q I hw => h.run po pins s σ H Q I (k σ H Q hw)⟩
theorem PS.imp {X : Cx} {e : Stmt} {t t' : TS} (h : PS X e t) (k : ∀ D σ H, t' D σ H → t D σ H) : PS X e t' := ⟨fun pins s σ H D I hw => h.run pins s σ H D I (k D σ H hw)⟩
theorem PSs.imp {X : Cx} {e : List Stmt} {t t' : TS} (h : PSs X e t) (k : ∀ D σ H, t' D σ H → t D σ H) : PSs X e t' := ⟨fun pins s σ H D I hw => h.run pins s σ H D I (k D σ H hw)⟩

def Ev (X : Cx) (C : Addr) (ρ : DE) (M : Mem) (e : Expr) (d : Dt) : Prop := PE X e (tR C ρ M d)
def EvN (X : Cx) (C : Addr) (ρ : DE) (M : Mem) (e : Expr) (ds : List Dt) : Prop := PE X e (tRN C ρ M ds)
def EvT (X : Cx) (C : Addr) (ρ : DE) (M : Mem) (e : Expr) (b : Bool) : Prop := PT X e (tRT C ρ M b)
def EvW (X : Cx) (C : Addr) (ρ : DE) (M : Mem) (e : Expr) (b : Bool) : Prop := PW X e (tRT C ρ M b)
def EvA (X : Cx) (C : Addr) (ρ : DE) (M : Mem) (es : List Expr) (ds : List Dt) : Prop := PA X es (tRA C ρ M ds)

section
variable {X : Cx} {C : Addr} {ρ : DE} {M : Mem} {a b c e : Expr} {d d1 d2 d3 : Dt} {pos : Pos} {i j k : Int}
/-! names, constants -/
theorem ev_v (i : Nat) {x : Str} {pos : Pos} (h : ρ[i]? = some (some d) := by rfl) (hN : X.N[i]? = some x := by rfl) (hv : Vis X.env.scope x := by first | exact Or.inl rfl | exact Or.inr (Or.inl rfl) | exact Or.inr (Or.inr rfl)) (hd : (x == ("__debug__" : Str)) = false := by decide)
    (hcd : (x == ("__classdict__" : Str)) = false := by decide) : Ev X C ρ M (.Name x pos) d :=
  PE.imp (pe_var hN hv hd hcd) fun σ H Q ⟨F, I, q⟩ => by
    obtain ⟨v, h1, h2⟩ := I.sl i d h
    exact ⟨v, h1, q v F H (.refl I.fh) h2⟩
theorem ev_int {z pos} : Ev X C ρ M (.Constant (.int i) z pos) (.int i) := PE.imp pe_int fun σ H Q ⟨F, I, q⟩ => q _ F H (.refl I.fh) (.int i)
theorem ev_bl {z pos} {i : Bool} : Ev X C ρ M (.Constant (.bool i) z pos) (.bl i) := PE.imp pe_bl fun σ H Q ⟨F, I, q⟩ => q _ F H (.refl I.fh) (.bl i)
theorem ev_non {z pos} : Ev X C ρ M (.Constant .none z pos) .non := PE.imp pe_non fun σ H Q ⟨F, I, q⟩ => q _ F H (.refl I.fh) .non
theorem ev_str {x z pos} : Ev X C ρ M (.Constant (.str x) z pos) (.str x) := PE.imp pe_str fun σ H Q ⟨F, I, q⟩ => q _ F H (.refl I.fh) (.str x)
/-! operators -/
/-- from data d1, d2 the datum d -/
def OD (C : Addr) (r : R2) (d1 d2 d : Dt) : Prop := ∀ (x y : V) (F H : Hp) (Q : VK), Same F H → Rp C F x d1 → Rp C F y d2 → (∀ v F' H', Ext F H F' H' → Rp C F' v d → Q v H') → r x y H Q
theorem tOp_of {r : R2} (hr : OD C r d1 d2 d) {σ : L2.St} {H : Hp} {Q : VK} (h : tR C ρ M d σ H Q) : tOp r (tR C ρ M d1) (tR C ρ M d2) σ H Q := by
  obtain ⟨F, I, q⟩ := h
  refine ⟨F, I, fun x F1 H1 e1 r1 => ⟨F1, I.ext e1, fun y F2 H2 e2 r2 => ?_⟩⟩
  exact hr x y F2 H2 Q e2.fh (r1.to e2.f) r2 fun v F3 H3 e3 r3 => q v F3 H3 ((e1.trans e2).trans e3) r3
theorem ev_op {op : Operator} {r : R2} (ho : OpR X (binaryOp op) r) (hr : OD C r d1 d2 d) (ha : Ev X C ρ M a d1) (hb : Ev X C ρ M b d2) : Ev X C ρ M (.BinOp a op b pos) d := PE.imp (pe_op ho ha hb) fun _ _ _ h => tOp_of hr h
theorem ev_cmp {op : CmpOp} {r : R2} (ho : OpR X (compareOp op) r) (hr : OD C r d1 d2 d) (ha : Ev X C ρ M a d1) (hb : Ev X C ρ M b d2) (hm : behindInMarks op b = false) : Ev X C ρ M (.Compare a [op] [b] pos) d := PE.imp (pe_cmpR ho ha hb hm) fun _ _ _ h => tOp_of hr h
theorem et_of {k : Bool} {σ : L2.St} {H : Hp} {Q : Bool → Hp → Prop} (h : tRT C ρ M k σ H Q) : tR C ρ M (.bl k) σ H fun x H' => ∃ k, x = .bl k ∧ Q k H' := by
  obtain ⟨F, I, q⟩ := h
  exact ⟨F, I, fun v F' H' e r => ⟨k, r.inj_bl, q F' H' e⟩⟩
theorem et_cmp {k : Bool} {op : CmpOp} {r : R2} (ho : OpR X (compareOp op) r) (hr : OD C r d1 d2 (.bl k)) (ha : Ev X C ρ M a d1) (hb : Ev X C ρ M b d2) (hm : behindInMarks op b = false) : EvT X C ρ M (.Compare a [op] [b] pos) k := PT.imp (pt_cmpR ho ha hb hm) fun _ _ _ h => tOp_of hr (et_of h)
theorem od_I {f : Int → Int → V} (h : ∀ F, Rp C F (f i j) d) : OD C (rI0 f) (.int i) (.int j) d := fun x y F H Q e r1 r2 q => ⟨i, j, r1.inj_int, r2.inj_int, q _ F H (.refl e) (h F)⟩
theorem od_IC {Cd : Int → Int → Prop} {f : Int → Int → V} (h : ∀ F, Rp C F (f i j) d) (hc : Cd i j) : OD C (rI Cd f) (.int i) (.int j) d := fun x y F H Q e r1 r2 q => ⟨i, j, r1.inj_int, r2.inj_int, hc, q _ F H (.refl e) (h F)⟩
theorem ev_add (ha : Ev X C ρ M a (.int i)) (hb : Ev X C ρ M b (.int j)) : Ev X C ρ M (.BinOp a .Add b pos) (.int (i + j)) := ev_op op_add (od_I fun _ => .int _) ha hb
theorem ev_sub (ha : Ev X C ρ M a (.int i)) (hb : Ev X C ρ M b (.int j)) : Ev X C ρ M (.BinOp a .Sub b pos) (.int (i - j)) := ev_op op_sub (od_I fun _ => .int _) ha hb
theorem ev_lt (ha : Ev X C ρ M a (.int i)) (hb : Ev X C ρ M b (.int j)) : Ev X C ρ M (.Compare a [.Lt] [b] pos) (.bl (decide (i < j))) := ev_cmp op_lt (od_I fun _ => .bl _) ha hb (nomark _)
theorem ev_le (ha : Ev X C ρ M a (.int i)) (hb : Ev X C ρ M b (.int j)) : Ev X C ρ M (.Compare a [.LtE] [b] pos) (.bl (decide (i ≤ j))) := ev_cmp op_le (od_I fun _ => .bl _) ha hb (nomark _)
theorem ev_gt (ha : Ev X C ρ M a (.int i)) (hb : Ev X C ρ M b (.int j)) : Ev X C ρ M (.Compare a [.Gt] [b] pos) (.bl (decide (j < i))) := ev_cmp op_gt (od_I fun _ => .bl _) ha hb (nomark _)
theorem ev_ge (ha : Ev X C ρ M a (.int i)) (hb : Ev X C ρ M b (.int j)) : Ev X C ρ M (.Compare a [.GtE] [b] pos) (.bl (decide (j ≤ i))) := ev_cmp op_ge (od_I fun _ => .bl _) ha hb (nomark _)
theorem ev_neg (ha : Ev X C ρ M a (.int i)) : Ev X C ρ M (.UnaryOp .USub a pos) (.int (-i)) := PE.imp (pe_un un_neg ha) fun σ H Q ⟨F, I, q⟩ => ⟨F, I, fun v F1 H1 e1 r => ⟨i, r.inj_int, q _ F1 H1 e1 (.int _)⟩⟩
/-- the datum is a scalar -/
def scD : Dt → Option V
  | .non => some .non
  | .bl b => some (.bl b)
  | .int i => some (.int i)
  | .str x => some (.str x)
  | _ => none
theorem Rp.sc {C : Addr} {H : Hp} {v x : V} {d : Dt} (h : Rp C H v d) (e : scD d = some x) : v = x := by
  cases h <;> (simp [scD] at e; try exact e)
theorem od_eqS {x y : V} (e1 : scD d1 = some x) (e2 : scD d2 = some y) (hs : scal x y = true) : OD C rEq d1 d2 (.bl (decide (x = y))) := fun x' y' F H Q e r1 r2 q => by
  rw [r1.sc e1, r2.sc e2]
  exact ⟨hs, q _ F H (.refl e) (.bl _)⟩
theorem od_neS {x y : V} (e1 : scD d1 = some x) (e2 : scD d2 = some y) (hs : scal x y = true) : OD C rNe d1 d2 (.bl (!decide (x = y))) := fun x' y' F H Q e r1 r2 q => by
  rw [r1.sc e1, r2.sc e2]
  exact ⟨hs, q _ F H (.refl e) (.bl _)⟩
theorem ev_eqI (ha : Ev X C ρ M a (.int i)) (hb : Ev X C ρ M b (.int j)) : Ev X C ρ M (.Compare a [.Eq] [b] pos) (.bl (decide (i = j))) := by
  have := ev_cmp (pos := pos) op_eq (od_eqS (C := C) (d1 := .int i) (d2 := .int j) rfl rfl rfl) ha hb (nomark _)
  simpa using this
theorem ev_neI (ha : Ev X C ρ M a (.int i)) (hb : Ev X C ρ M b (.int j)) : Ev X C ρ M (.Compare a [.NotEq] [b] pos) (.bl (!decide (i = j))) := by
  have := ev_cmp (pos := pos) op_ne (od_neS (C := C) (d1 := .int i) (d2 := .int j) rfl rfl rfl) ha hb (nomark _)
  simpa using this
theorem ev_eqB {i j : Bool} (ha : Ev X C ρ M a (.bl i)) (hb : Ev X C ρ M b (.bl j)) : Ev X C ρ M (.Compare a [.Eq] [b] pos) (.bl (decide (i = j))) := by
  have := ev_cmp (pos := pos) op_eq (od_eqS (C := C) (d1 := .bl i) (d2 := .bl j) rfl rfl rfl) ha hb (nomark _)
  simpa using this
theorem ev_neB {i j : Bool} (ha : Ev X C ρ M a (.bl i)) (hb : Ev X C ρ M b (.bl j)) : Ev X C ρ M (.Compare a [.NotEq] [b] pos) (.bl (!decide (i = j))) := by
  have := ev_cmp (pos := pos) op_ne (od_neS (C := C) (d1 := .bl i) (d2 := .bl j) rfl rfl rfl) ha hb (nomark _)
  simpa using this
theorem ev_eqStr {i j : Str} (ha : Ev X C ρ M a (.str i)) (hb : Ev X C ρ M b (.str j)) : Ev X C ρ M (.Compare a [.Eq] [b] pos) (.bl (decide (i = j))) := by
  have := ev_cmp (pos := pos) op_eq (od_eqS (C := C) (d1 := .str i) (d2 := .str j) rfl rfl rfl) ha hb (nomark _)
  simpa using this
theorem ev_neStr {i j : Str} (ha : Ev X C ρ M a (.str i)) (hb : Ev X C ρ M b (.str j)) : Ev X C ρ M (.Compare a [.NotEq] [b] pos) (.bl (!decide (i = j))) := by
  have := ev_cmp (pos := pos) op_ne (od_neS (C := C) (d1 := .str i) (d2 := .str j) rfl rfl rfl) ha hb (nomark _)
  simpa using this
theorem od_eqD {K : PySem.W.Frag} (n1 : noR d1 = true) (n2 : noR d2 = true) (s1 : SeqAt.shaped (toPy d1) = true) (s2 : SeqAt.shaped (toPy d2) = true) : OD C (rEqD K) d1 d2 (.bl (PyData.eqv (toPy d1) (toPy d2))) := fun x y F H Q e r1 r2 q =>
  ⟨toPy d1, toPy d2, Rp.dp d1 n1 (r1.to e), Rp.dp d2 n2 (r2.to e), s1, s2, q _ F H (.refl e) (.bl _)⟩
theorem od_neD {K : PySem.W.Frag} (n1 : noR d1 = true) (n2 : noR d2 = true) (s1 : SeqAt.shaped (toPy d1) = true) (s2 : SeqAt.shaped (toPy d2) = true) : OD C (rNeD K) d1 d2 (.bl (!PyData.eqv (toPy d1) (toPy d2))) := fun x y F H Q e r1 r2 q =>
  ⟨toPy d1, toPy d2, Rp.dp d1 n1 (r1.to e), Rp.dp d2 n2 (r2.to e), s1, s2, q _ F H (.refl e) (.bl _)⟩
theorem ev_eqD {n : Nat} (hr : Room n X.A) (ha : Ev X C ρ M a d1) (hb : Ev X C ρ M b d2) (n1 : noR d1 = true) (n2 : noR d2 = true) (s1 : SeqAt.shaped (toPy d1) = true) (s2 : SeqAt.shaped (toPy d2) = true) : Ev X C ρ M (.Compare a [.Eq] [b] pos) (.bl (PyData.eqv (toPy d1) (toPy d2))) :=
  ev_cmp (op_eqD hr.units) (od_eqD n1 n2 s1 s2) ha hb (nomark _)
theorem ev_neD {n : Nat} (hr : Room n X.A) (ha : Ev X C ρ M a d1) (hb : Ev X C ρ M b d2) (n1 : noR d1 = true) (n2 : noR d2 = true) (s1 : SeqAt.shaped (toPy d1) = true) (s2 : SeqAt.shaped (toPy d2) = true) : Ev X C ρ M (.Compare a [.NotEq] [b] pos) (.bl (!PyData.eqv (toPy d1) (toPy d2))) :=
  ev_cmp (op_neD hr.units) (od_neD n1 n2 s1 s2) ha hb (nomark _)
/-- is None, is not None -/
theorem Rp.non_iff {C : Addr} {H : Hp} {v : V} {d : Dt} (h : Rp C H v d) : v = .non ↔ d = .non := by
  cases h <;> simp
def isNon : Dt → Bool
  | .non => true
  | _ => false
theorem isNon_iff {d : Dt} : isNon d = true ↔ d = .non := by cases d <;> simp [isNon]
theorem ev_isN {z pos'} (ha : Ev X C ρ M a d) : Ev X C ρ M (.Compare a [.Is] [.Constant .none z pos'] pos) (.bl (isNon d)) := PE.imp (pe_cmp (pc_isN ha)) fun σ H Q ⟨F, I, q⟩ => ⟨F, I, fun v F' H' e r => by
  have := q (.bl (isNon d)) F' H' e (.bl _)
  have e : decide (v = .non) = isNon d := by rw [Bool.eq_iff_iff, decide_eq_true_eq, isNon_iff, r.non_iff]
  show Q (V.bl (decide (v = .non))) H'
  rw [e]
  exact this⟩
theorem ev_notN {z pos'} (ha : Ev X C ρ M a d) : Ev X C ρ M (.Compare a [.IsNot] [.Constant .none z pos'] pos) (.bl (!isNon d)) := PE.imp (pe_cmp (pc_notN ha)) fun σ H Q ⟨F, I, q⟩ => ⟨F, I, fun v F' H' e r => by
  have := q (.bl (!isNon d)) F' H' e (.bl _)
  have e : decide (v = .non) = isNon d := by rw [Bool.eq_iff_iff, decide_eq_true_eq, isNon_iff, r.non_iff]
  show Q (V.bl (!decide (v = .non))) H'
  rw [e]
  exact this⟩
/-! chains: a <= b < c -/
theorem tChain_of {σ : L2.St} {H : Hp} {Q : VK} (h : tR C ρ M (.bl (decide (i ≤ j ∧ j < k))) σ H Q) :
    tChain (rI0 fun i j => .bl (decide (i ≤ j))) (rI0 fun i j => .bl (decide (i < j))) (tR C ρ M (.int i)) (tR C ρ M (.int j)) (tR C ρ M (.int k)) σ H Q := by
  obtain ⟨F, I, q⟩ := h
  refine ⟨F, I, fun x F1 H1 e1 r1 => ⟨F1, I.ext e1, fun y F2 H2 e2 r2 => ?_⟩⟩
  refine ⟨i, j, r1.inj_int, r2.inj_int, decide (i ≤ j), rfl, ?_⟩
  by_cases h1 : i ≤ j
  · rw [decide_eq_true h1, if_pos rfl]
    refine ⟨F2, (I.ext e1).ext e2, fun z F3 H3 e3 r3 => ⟨j, k, r2.inj_int, r3.inj_int, ?_⟩⟩
    have q' := q (.bl (decide (i ≤ j ∧ j < k))) F3 H3 ((e1.trans e2).trans e3) (.bl _)
    have ed : decide (i ≤ j ∧ j < k) = decide (j < k) := decide_eq_decide.mpr ⟨fun h => h.2, fun h => ⟨h1, h⟩⟩
    rw [ed] at q'
    exact q'
  · rw [decide_eq_false h1, if_neg Bool.false_ne_true]
    have q' := q (.bl (decide (i ≤ j ∧ j < k))) F2 H2 (e1.trans e2) (.bl _)
    rw [decide_eq_false (fun h => h1 h.1)] at q'
    exact q'
theorem ev_chain (ha : Ev X C ρ M a (.int i)) (hb : Ev X C ρ M b (.int j)) (hc : Ev X C ρ M c (.int k)) (hm : lastMarks [CmpOp.LtE, CmpOp.Lt] [b, c] = false := by with_unfolding_all rfl) : Ev X C ρ M (.Compare a [.LtE, .Lt] [b, c] pos) (.bl (decide (i ≤ j ∧ j < k))) :=
  PE.imp (pe_chain op_le op_lt ha hb hc hm) fun _ _ _ h => tChain_of h
theorem et_chain (ha : Ev X C ρ M a (.int i)) (hb : Ev X C ρ M b (.int j)) (hc : Ev X C ρ M c (.int k)) (hm : lastMarks [CmpOp.LtE, CmpOp.Lt] [b, c] = false := by with_unfolding_all rfl) : EvT X C ρ M (.Compare a [.LtE, .Lt] [b, c] pos) (decide (i ≤ j ∧ j < k)) :=
  PT.imp (pt_chain op_le op_lt ha hb hc hm) fun _ _ _ h => tChain_of (et_of h)
/-! tests -/
/-- any expression but and, or, not, comparisons -/
theorem et_val {k : Bool} (h : Ev X C ρ M e (.bl k)) (he : ∀ whole, isTrue e X.env whole = (do let v ← whole; standAt e.pos; holding [v] (truthy v)) := by intro _; rfl) : EvT X C ρ M e k := PT.imp (pt_val h he) fun _ _ _ h => et_of h
/-- a comparison by its value -/
theorem et_c {k : Bool} {op : CmpOp} {t : TE} (h : PC X op a b t) (hk : ∀ σ H Q, tR C ρ M (.bl k) σ H Q → t σ H Q) (hm : behindInMarks op b = false := by first | exact nobehind _ (by decide) (by decide) | rfl) : EvT X C ρ M (.Compare a [op] [b] pos) k := PT.imp (pt_cmp h hm) fun _ _ _ h => hk _ _ _ (et_of h)
theorem et_lt (ha : Ev X C ρ M a (.int i)) (hb : Ev X C ρ M b (.int j)) : EvT X C ρ M (.Compare a [.Lt] [b] pos) (decide (i < j)) := et_cmp op_lt (od_I fun _ => .bl _) ha hb (nomark _)
theorem et_le (ha : Ev X C ρ M a (.int i)) (hb : Ev X C ρ M b (.int j)) : EvT X C ρ M (.Compare a [.LtE] [b] pos) (decide (i ≤ j)) := et_cmp op_le (od_I fun _ => .bl _) ha hb (nomark _)
theorem et_gt (ha : Ev X C ρ M a (.int i)) (hb : Ev X C ρ M b (.int j)) : EvT X C ρ M (.Compare a [.Gt] [b] pos) (decide (j < i)) := et_cmp op_gt (od_I fun _ => .bl _) ha hb (nomark _)
theorem et_ge (ha : Ev X C ρ M a (.int i)) (hb : Ev X C ρ M b (.int j)) : EvT X C ρ M (.Compare a [.GtE] [b] pos) (decide (j ≤ i)) := et_cmp op_ge (od_I fun _ => .bl _) ha hb (nomark _)
theorem et_eqI (ha : Ev X C ρ M a (.int i)) (hb : Ev X C ρ M b (.int j)) : EvT X C ρ M (.Compare a [.Eq] [b] pos) (decide (i = j)) := by
  have := et_cmp (pos := pos) op_eq (od_eqS (C := C) (d1 := .int i) (d2 := .int j) rfl rfl rfl) ha hb (nomark _)
  simpa using this
theorem et_neI (ha : Ev X C ρ M a (.int i)) (hb : Ev X C ρ M b (.int j)) : EvT X C ρ M (.Compare a [.NotEq] [b] pos) (!decide (i = j)) := by
  have := et_cmp (pos := pos) op_ne (od_neS (C := C) (d1 := .int i) (d2 := .int j) rfl rfl rfl) ha hb (nomark _)
  simpa using this
theorem et_eqStr {i j : Str} (ha : Ev X C ρ M a (.str i)) (hb : Ev X C ρ M b (.str j)) : EvT X C ρ M (.Compare a [.Eq] [b] pos) (decide (i = j)) := by
  have := et_cmp (pos := pos) op_eq (od_eqS (C := C) (d1 := .str i) (d2 := .str j) rfl rfl rfl) ha hb (nomark _)
  simpa using this
theorem et_neStr {i j : Str} (ha : Ev X C ρ M a (.str i)) (hb : Ev X C ρ M b (.str j)) : EvT X C ρ M (.Compare a [.NotEq] [b] pos) (!decide (i = j)) := by
  have := et_cmp (pos := pos) op_ne (od_neS (C := C) (d1 := .str i) (d2 := .str j) rfl rfl rfl) ha hb (nomark _)
  simpa using this
theorem et_neB {i j : Bool} (ha : Ev X C ρ M a (.bl i)) (hb : Ev X C ρ M b (.bl j)) : EvT X C ρ M (.Compare a [.NotEq] [b] pos) (!decide (i = j)) := by
  have := et_cmp (pos := pos) op_ne (od_neS (C := C) (d1 := .bl i) (d2 := .bl j) rfl rfl rfl) ha hb (nomark _)
  simpa using this
theorem et_eqD {n : Nat} (hr : Room n X.A) (ha : Ev X C ρ M a d1) (hb : Ev X C ρ M b d2) (n1 : noR d1 = true) (n2 : noR d2 = true) (s1 : SeqAt.shaped (toPy d1) = true) (s2 : SeqAt.shaped (toPy d2) = true) : EvT X C ρ M (.Compare a [.Eq] [b] pos) (PyData.eqv (toPy d1) (toPy d2)) :=
  et_cmp (op_eqD hr.units) (od_eqD n1 n2 s1 s2) ha hb (nomark _)
theorem et_neD {n : Nat} (hr : Room n X.A) (ha : Ev X C ρ M a d1) (hb : Ev X C ρ M b d2) (n1 : noR d1 = true) (n2 : noR d2 = true) (s1 : SeqAt.shaped (toPy d1) = true) (s2 : SeqAt.shaped (toPy d2) = true) : EvT X C ρ M (.Compare a [.NotEq] [b] pos) (!PyData.eqv (toPy d1) (toPy d2)) :=
  et_cmp (op_neD hr.units) (od_neD n1 n2 s1 s2) ha hb (nomark _)
theorem et_isN {z pos'} (ha : Ev X C ρ M a d) : EvT X C ρ M (.Compare a [.Is] [.Constant .none z pos'] pos) (isNon d) := PT.imp (pt_cmp (pc_isN ha)) fun σ H Q h => by
  obtain ⟨F, I, q⟩ := et_of h
  refine ⟨F, I, fun v F' H' e r => ?_⟩
  have := q (.bl (isNon d)) F' H' e (.bl _)
  have e : decide (v = .non) = isNon d := by rw [Bool.eq_iff_iff, decide_eq_true_eq, isNon_iff, r.non_iff]
  show ∃ c, V.bl (decide (v = .non)) = .bl c ∧ Q c H'
  rw [e]
  exact this
theorem et_notN {z pos'} (ha : Ev X C ρ M a d) : EvT X C ρ M (.Compare a [.IsNot] [.Constant .none z pos'] pos) (!isNon d) := PT.imp (pt_cmp (pc_notN ha)) fun σ H Q h => by
  obtain ⟨F, I, q⟩ := et_of h
  refine ⟨F, I, fun v F' H' e r => ?_⟩
  have := q (.bl (!isNon d)) F' H' e (.bl _)
  have e : decide (v = .non) = isNon d := by rw [Bool.eq_iff_iff, decide_eq_true_eq, isNon_iff, r.non_iff]
  show ∃ c, V.bl (!decide (v = .non)) = .bl c ∧ Q c H'
  rw [e]
  exact this
variable {rest : List Expr} {k1 k2 : Bool}
theorem EvW.t (h : EvW X C ρ M e k1) : EvT X C ρ M e k1 := PW.pt h
theorem ew_and1 (ha : EvT X C ρ M a k1) : EvW X C ρ M (.BoolOp .And [a] pos) k1 := pw_and1 ha
theorem ew_or1 (ha : EvT X C ρ M a k1) : EvW X C ρ M (.BoolOp .Or [a] pos) k1 := pw_or1 ha
/-- the second is asked where the first is true -/
theorem ew_and (ha : EvT X C ρ M a k1) (hb : k1 = true → EvW X C ρ M (.BoolOp .And (b :: rest) pos) k2) : EvW X C ρ M (.BoolOp .And (a :: b :: rest) pos) (k1 && k2) := by
  cases k1 with
  | true => exact PW.imp (pw_and ha (hb rfl)) fun σ H Q ⟨F, I, q⟩ => ⟨F, I, fun F1 H1 e1 => by
      show tRT C ρ M k2 σ H1 Q
      exact ⟨F1, I.ext e1, fun F2 H2 e2 => q F2 H2 (e1.trans e2)⟩⟩
  | false =>
    have nv : PW X (.BoolOp .And (b :: rest) pos) (fun _ _ _ => False) := ⟨fun _ _ _ _ _ _ _ h => h.elim⟩
    exact PW.imp (pw_and ha nv) fun σ H Q ⟨F, I, q⟩ => ⟨F, I, fun F1 H1 e1 => q F1 H1 e1⟩
theorem ew_or (ha : EvT X C ρ M a k1) (hb : k1 = false → EvW X C ρ M (.BoolOp .Or (b :: rest) pos) k2) : EvW X C ρ M (.BoolOp .Or (a :: b :: rest) pos) (k1 || k2) := by
  cases k1 with
  | false => exact PW.imp (pw_or ha (hb rfl)) fun σ H Q ⟨F, I, q⟩ => ⟨F, I, fun F1 H1 e1 => by
      show tRT C ρ M k2 σ H1 Q
      exact ⟨F1, I.ext e1, fun F2 H2 e2 => q F2 H2 (e1.trans e2)⟩⟩
  | true =>
    have nv : PW X (.BoolOp .Or (b :: rest) pos) (fun _ _ _ => False) := ⟨fun _ _ _ _ _ _ _ h => h.elim⟩
    exact PW.imp (pw_or ha nv) fun σ H Q ⟨F, I, q⟩ => ⟨F, I, fun F1 H1 e1 => q F1 H1 e1⟩
theorem et_not (ha : EvT X C ρ M a k1) : EvT X C ρ M (.UnaryOp .Not a pos) (!k1) := PT.imp (pt_not ha) fun σ H Q ⟨F, I, q⟩ => ⟨F, I, fun F1 H1 e1 => q F1 H1 e1⟩
theorem ev_not (ha : Ev X C ρ M a (.bl k1)) : Ev X C ρ M (.UnaryOp .Not a pos) (.bl (!k1)) := PE.imp (pe_not ha) fun σ H Q ⟨F, I, q⟩ => ⟨F, I, fun v F1 H1 e1 r => ⟨k1, r.inj_bl, q _ F1 H1 e1 (.bl _)⟩⟩
theorem ev_one {op} (h : Ev X C ρ M a d) : Ev X C ρ M (.BoolOp op [a] pos) d := pe_one h
theorem ev_and (ha : Ev X C ρ M a (.bl k1)) (hb : k1 = true → Ev X C ρ M (.BoolOp .And (b :: rest) pos) (.bl k2)) : Ev X C ρ M (.BoolOp .And (a :: b :: rest) pos) (.bl (k1 && k2)) := by
  cases k1 with
  | true => exact PE.imp (pe_and ha (hb rfl)) fun σ H Q ⟨F, I, q⟩ => ⟨F, I, fun v F1 H1 e1 r => ⟨true, r.inj_bl, by
      rw [if_pos rfl]
      exact ⟨F1, I.ext e1, fun v F2 H2 e2 r2 => q v F2 H2 (e1.trans e2) r2⟩⟩⟩
  | false =>
    have nv : PE X (.BoolOp .And (b :: rest) pos) (fun _ _ _ => False) := ⟨fun _ _ _ _ _ _ h => h.elim⟩
    exact PE.imp (pe_and ha nv) fun σ H Q ⟨F, I, q⟩ => ⟨F, I, fun v F1 H1 e1 r => ⟨false, r.inj_bl, by
      rw [if_neg Bool.false_ne_true]
      exact q _ F1 H1 e1 (.bl _)⟩⟩
theorem ev_or (ha : Ev X C ρ M a (.bl k1)) (hb : k1 = false → Ev X C ρ M (.BoolOp .Or (b :: rest) pos) (.bl k2)) : Ev X C ρ M (.BoolOp .Or (a :: b :: rest) pos) (.bl (k1 || k2)) := by
  cases k1 with
  | false => exact PE.imp (pe_or ha (hb rfl)) fun σ H Q ⟨F, I, q⟩ => ⟨F, I, fun v F1 H1 e1 r => ⟨false, r.inj_bl, by
      rw [if_neg Bool.false_ne_true]
      exact ⟨F1, I.ext e1, fun v F2 H2 e2 r2 => q v F2 H2 (e1.trans e2) r2⟩⟩⟩
  | true =>
    have nv : PE X (.BoolOp .Or (b :: rest) pos) (fun _ _ _ => False) := ⟨fun _ _ _ _ _ _ h => h.elim⟩
    exact PE.imp (pe_or ha nv) fun σ H Q ⟨F, I, q⟩ => ⟨F, I, fun v F1 H1 e1 r => ⟨true, r.inj_bl, by
      rw [if_pos rfl]
      exact q _ F1 H1 e1 (.bl _)⟩⟩
theorem ev_if (hc : EvT X C ρ M c k1) (ha : k1 = true → Ev X C ρ M a d) (hb : k1 = false → Ev X C ρ M b d) : Ev X C ρ M (.IfExp c a b pos) d := by
  have nv : ∀ e, PE X e (fun _ _ _ => False) := fun e => ⟨fun _ _ _ _ _ _ h => h.elim⟩
  cases k1 with
  | true => exact PE.imp (pe_ifExp hc (ha rfl) (nv b)) fun σ H Q ⟨F, I, q⟩ => ⟨F, I, fun F1 H1 e1 => by
      show tR C ρ M d σ H1 Q
      exact ⟨F1, I.ext e1, fun v F2 H2 e2 r2 => q v F2 H2 (e1.trans e2) r2⟩⟩
  | false => exact PE.imp (pe_ifExp hc (nv a) (hb rfl)) fun σ H Q ⟨F, I, q⟩ => ⟨F, I, fun F1 H1 e1 => by
      show tR C ρ M d σ H1 Q
      exact ⟨F1, I.ext e1, fun v F2 H2 e2 r2 => q v F2 H2 (e1.trans e2) r2⟩⟩
/-! argument lists, displays -/
variable {es : List Expr} {ds : List Dt}
theorem ea_nil : EvA X C ρ M [] [] := PA.imp pa_nil fun σ H Q ⟨F, I, q⟩ => q [] F H (.refl I.fh) .nil
theorem ea_cons (ha : Ev X C ρ M e d) (hr : EvA X C ρ M es ds) (hs : starEach (e :: es) X.env = (false, eval e X.env) :: starEach es X.env := by rfl) : EvA X C ρ M (e :: es) (d :: ds) :=
  PA.imp (pa_cons ha hr hs) fun σ H Q ⟨F, I, q⟩ => ⟨F, I, fun v F1 H1 e1 r1 => ⟨F1, I.ext e1, fun vs F2 H2 e2 r2 => q (v :: vs) F2 H2 (e1.trans e2) (.cons (r1.to e2.f) r2)⟩⟩
theorem ev_tup {x1} (h : EvA X C ρ M es ds) (hl : ds.length ≤ 1000 := by exact Nat.le_of_ble_eq_true rfl) : Ev X C ρ M (.Tuple es x1 pos) (.tup ds) :=
  PE.imp (pe_tup h) fun σ H Q ⟨F, I, q⟩ => ⟨F, I, fun vs F1 H1 e1 r1 => ⟨by rw [r1.length]; exact Nat.le_trans hl (by decide), fun p hp =>
    q _ _ _ (e1.trans (.new e1.fh hp)) (.tup upd_same (r1.to (same_new (e1.fh.free hp))))⟩⟩
theorem en_lst (h : EvA X C ρ M es ds) (hl : ds.length ≤ 1000 := by exact Nat.le_of_ble_eq_true rfl) : EvN X C ρ M (.List es pos) ds :=
  PE.imp (pe_lst h) fun σ H Q ⟨F, I, q⟩ => ⟨F, I, fun vs F1 H1 e1 r1 => ⟨by rw [r1.length]; exact Nat.le_trans hl (by decide), fun p hp =>
    q p vs F1 _ (e1.free hp) (e1.trans (.newH e1.fh hp)) (e1.fh.free hp) upd_same r1⟩⟩
/-- a new list as a datum -/
theorem ev_new (h : EvN X C ρ M e ds) : Ev X C ρ M e (.lst ds) := PE.imp h fun σ H Q ⟨F, I, q⟩ => ⟨F, I, fun p xs F1 H1 hp e1 hf hx r => q _ (upd F1 p (.lst xs)) H1 (e1.join hx hp hf) (.lst upd_same (r.to (same_new hf)))⟩
/-! subscripts -/
theorem od_ixL {K : PySem.W.Frag} (h : atI ds i = some d) : OD C (rIxL K) (.lst ds) (.int i) d := fun x y F H Q e r1 r2 q => by
  obtain ⟨p, xs, rfl, hp, ra⟩ := r1.inj_lst
  rw [r2.inj_int]
  unfold atI at h
  cases hn : ixN ds.length i with
  | none => rw [hn] at h; cases h
  | some j =>
    rw [hn] at h
    obtain ⟨v, hv, rv⟩ := ra.at (show ds[j]? = some d from h)
    refine ⟨p, xs, i, v, rfl, rfl, .of (e _ _ hp), ?_, q v F H (.refl e) rv⟩
    unfold atI
    rw [ra.length, hn]
    exact hv
theorem od_ixT {K : PySem.W.Frag} (h : atI ds i = some d) : OD C (rIxT K) (.tup ds) (.int i) d := fun x y F H Q e r1 r2 q => by
  obtain ⟨p, xs, rfl, hp, ra⟩ := r1.inj_tup
  rw [r2.inj_int]
  unfold atI at h
  cases hn : ixN ds.length i with
  | none => rw [hn] at h; cases h
  | some j =>
    rw [hn] at h
    obtain ⟨v, hv, rv⟩ := ra.at (show ds[j]? = some d from h)
    refine ⟨p, xs, i, v, rfl, rfl, .of (e _ _ hp), ?_, q v F H (.refl e) rv⟩
    unfold atI
    rw [ra.length, hn]
    exact hv
theorem ev_ixL (ha : Ev X C ρ M a (.lst ds)) (hb : Ev X C ρ M b (.int i)) (h : atI ds i = some d) (hs : PlainIx b := by intro _ _; rfl) : Ev X C ρ M (.Subscript a b pos) d := PE.imp (pe_ix ix_list ha hb hs) fun _ _ _ z => tOp_of (od_ixL h) z
theorem ev_ixT (ha : Ev X C ρ M a (.tup ds)) (hb : Ev X C ρ M b (.int i)) (h : atI ds i = some d := by rfl) (hs : PlainIx b := by intro _ _; rfl) : Ev X C ρ M (.Subscript a b pos) d := PE.imp (pe_ix ix_tup ha hb hs) fun _ _ _ z => tOp_of (od_ixT h) z
/-! ### an object that changes, looked at as it stands -/
theorem view_en {F H : Hp} {σ : L2.St} {n : Nat} {i : Nat} {p : Addr} {d : Dt} (I : En C F ρ M σ H) (hM : M[n]? = some (p, d)) (hi : ρ[i]? = some (some (.ref p))) (hv : vw d = true) : ∃ h, H p = some h ∧ F p = none ∧ En C (upd F p h) (ρ.set i (some d)) (M.eraseIdx n) σ H := by
  obtain ⟨h1, h, h2, h3⟩ := I.m.m n p d hM
  have eF : Same F (upd F p h) := same_new h1
  refine ⟨h, h2, h1, ⟨fun b u q => ?_, by rw [List.length_set]; exact I.len, fun j e hj => ?_, ⟨fun m q e hm => ?_, ?_⟩⟩⟩
  · by_cases hb : b = p
    · subst hb; rw [upd_same] at q; rw [h2]; exact q
    · rw [upd_ne hb] at q; exact I.fh b u q
  · by_cases hij : i = j
    · subst hij
      have hl : i < ρ.length := (List.getElem?_eq_some_iff.mp hi).1
      rw [List.getElem?_set_self hl] at hj
      cases hj
      obtain ⟨v, g1, g2⟩ := I.sl i _ hi
      rw [g2.inj_ref] at g1
      exact ⟨_, g1, (h3.to eF).rp upd_same hv⟩
    · rw [List.getElem?_set_ne hij] at hj
      obtain ⟨v, g1, g2⟩ := I.sl j e hj
      exact ⟨v, g1, g2.to eF⟩
  · have hmem : ∃ m', m' ≠ n ∧ M[m']? = some (q, e) := by
      rw [List.getElem?_eraseIdx] at hm
      by_cases hmn : m < n
      · rw [if_pos hmn] at hm; exact ⟨m, by omega, hm⟩
      · rw [if_neg hmn] at hm; exact ⟨m + 1, by omega, hm⟩
    obtain ⟨m', hne, hm'⟩ := hmem
    obtain ⟨g1, g, g2, g3⟩ := I.m.m m' q e hm'
    have hqp : q ≠ p := fun z => by
      subst z
      have a1 : (M.map (·.1))[m']? = some q := by rw [List.getElem?_map, hm']; rfl
      have a2 : (M.map (·.1))[n]? = some q := by rw [List.getElem?_map, hM]; rfl
      exact hne (nd_ix I.m.nd a1 a2)
    exact ⟨by rw [upd_ne hqp]; exact g1, g, g2, g3.to eF⟩
  · exact I.m.nd.sublist ((List.eraseIdx_sublist _ _).map _)
/-- back: F1 beyond upd F p h, without p -/
def wo (F : Hp) (p : Addr) : Hp := fun b => if b = p then none else F b
theorem wo_ne {F : Hp} {p b : Addr} (h : b ≠ p) : wo F p b = F b := by unfold wo; rw [if_neg h]
theorem wo_same {F : Hp} {p : Addr} : wo F p p = none := by unfold wo; rw [if_pos rfl]
theorem ext_wo {F H F1 H1 : Hp} {p : Addr} {h : HO} (hp : H p = some h) (hf : F p = none) (e : Ext (upd F p h) H F1 H1) : Ext F H (wo F1 p) H1 := ⟨e.h, fun b u q => by
  have hb : b ≠ p := fun z => by rw [z, hf] at q; cases q
  rw [wo_ne hb]
  exact e.f b u (by rw [upd_ne hb]; exact q), fun b u q => by
  have hb : b ≠ p := fun z => by rw [z, wo_same] at q; cases q
  rw [wo_ne hb] at q
  exact e.fh b u q, fun b hb => by
  by_cases z : b = p
  · subst z; rw [wo_same, hf]
  · rw [wo_ne z, e.old b hb, upd_ne z]⟩
theorem tsame_wo {F : Hp} {p : Addr} {h : HO} (hp : F p = some h) (h1 : ∀ xs, h ≠ .tup xs) (h2 : ∀ C dx fs, h ≠ .ins C dx fs) : TSame F (wo F p) := ⟨fun a xs q => by
  rw [wo_ne (fun z => by rw [z, hp] at q; exact h1 xs (Option.some.inj q))]; exact q, fun a D dx fs q => by
  rw [wo_ne (fun z => by rw [z, hp] at q; exact h2 D dx fs (Option.some.inj q))]; exact q⟩
theorem RepO.kind {F : Hp} {h : HO} : ∀ {d : Dt}, RepO C F h d → (∀ xs, h ≠ .tup xs) ∧ ∀ C dx fs, h ≠ .ins C dx fs
  | .lst ds, ⟨xs, h1, h2⟩ => by subst h1; exact ⟨fun _ z => (nomatch z), fun _ _ _ z => nomatch z⟩
  | .dct ks ds, ⟨kvs, h1, h2, h3⟩ => by subst h1; exact ⟨fun _ z => (nomatch z), fun _ _ _ z => nomatch z⟩
  | .st w a ks, ⟨S, n, h1, _⟩ => by subst h1; exact ⟨fun _ z => (nomatch z), fun _ _ _ z => nomatch z⟩
  | .nd w a es, ⟨xs, h1, _⟩ => by subst h1; exact ⟨fun _ z => (nomatch z), fun _ _ _ z => nomatch z⟩
/-- what is read of it has no list of its own -/
theorem ev_view (n i : Nat) {p : Addr} {d0 : Dt} (h : Ev X C (ρ.set i (some d0)) (M.eraseIdx n) e d) (hM : M[n]? = some (p, d0) := by rfl) (hi : ρ[i]? = some (some (.ref p)) := by rfl) (hd : noL d = true := by rfl) (hv : vw d0 = true := by rfl) : Ev X C ρ M e d :=
  PE.imp h fun σ H Q ⟨F, I, q⟩ => by
    obtain ⟨h1, g, g2, g3⟩ := I.m.m n p d0 hM
    obtain ⟨k1, k2⟩ := g3.kind
    obtain ⟨h, hp, hf, I'⟩ := view_en I hM hi hv
    obtain rfl : h = g := Option.some.inj (hp.symm.trans g2)
    refine ⟨_, I', fun v F1 H1 e1 r1 => ?_⟩
    have hp1 : F1 p = some h := e1.f _ _ upd_same
    exact q v _ H1 (ext_wo hp hf e1) (Rp.tx (tsame_wo hp1 k1 k2) d hd r1)
theorem et_view (n i : Nat) {p : Addr} {d0 : Dt} {k : Bool} (h : EvT X C (ρ.set i (some d0)) (M.eraseIdx n) e k) (hM : M[n]? = some (p, d0) := by rfl) (hi : ρ[i]? = some (some (.ref p)) := by rfl) (hv : vw d0 = true := by rfl) : EvT X C ρ M e k :=
  PT.imp h fun σ H Q ⟨F, I, q⟩ => by
    obtain ⟨h, hp, hf, I'⟩ := view_en I hM hi hv
    exact ⟨_, I', fun F1 H1 e1 => q _ H1 (ext_wo hp hf e1)⟩
end
end BR
/-! BrG: statements, loops, calls, defs, by data. -/
namespace BR
open PySem PySem.Spec PyProof.Rows L2

/-- what is wanted behind a statement, by data -/
structure Po where
  nx : DE → Mem → Prop
  rt : Dt → Mem → Prop
  bk : DE → Mem → Prop := fun _ _ => False
  ct : DE → Mem → Prop := fun _ _ => False
/-- since the base -/
structure Bs (Fb Hb : Hp) (M : Mem) (F H : Hp) : Prop where
  x : Ext Fb Hb F H
  n : ∀ (i : Nat) p d, M[i]? = some (p, d) → Hb p = none
structure Post (C : Addr) (Fb Hb : Hp) (P : Po) (D : Ends) : Prop where
  nx : ∀ ρ M σ F H, P.nx ρ M → Bs Fb Hb M F H → En C F ρ M σ H → D.nx σ H
  bk : ∀ ρ M σ F H, P.bk ρ M → Bs Fb Hb M F H → En C F ρ M σ H → D.bk σ H
  ct : ∀ ρ M σ F H, P.ct ρ M → Bs Fb Hb M F H → En C F ρ M σ H → D.ct σ H
  rt : ∀ v d M F H, P.rt d M → Bs Fb Hb M F H → MOk C F H M → Rp C F v d → D.rt v H
def tS (C : Addr) (ρ : DE) (M : Mem) (P : Po) : TS := fun D σ H => ∃ Fb Hb F, Bs Fb Hb M F H ∧ En C F ρ M σ H ∧ Post C Fb Hb P D
def SD (X : Cx) (C : Addr) (s : Stmt) (ρ : DE) (M : Mem) (P : Po) : Prop := PS X s (tS C ρ M P)
def SDs (X : Cx) (C : Addr) (ss : List Stmt) (ρ : DE) (M : Mem) (P : Po) : Prop := PSs X ss (tS C ρ M P)
theorem Bs.ext {Fb Hb F H F1 H1 : Hp} {M : Mem} (b : Bs Fb Hb M F H) (e : Ext F H F1 H1) : Bs Fb Hb M F1 H1 := ⟨b.x.trans e, b.n⟩
theorem MOk.push {C : Addr} {F H : Hp} {M : Mem} {p : Addr} {h : HO} {d : Dt} (m : MOk C F H M) (hf : F p = none) (hH : H p = some h) (r : RepO C F h d) (hn : ∀ (j : Nat) q u, M[j]? = some (q, u) → q ≠ p) : MOk C F H (M ++ [(p, d)]) := by
  refine ⟨fun j q u hj => ?_, ?_⟩
  · rw [List.getElem?_append] at hj
    split at hj
    · exact m.m j q u hj
    · rw [List.getElem?_singleton] at hj
      split at hj
      · cases hj
        exact ⟨hf, _, hH, r⟩
      · cases hj
  · rw [List.map_append, List.map_singleton]
    refine List.nodup_append.mpr ⟨m.nd, by simp, fun q hq r' hr' => ?_⟩
    have : r' = p := by simpa using hr'
    subst this
    rintro rfl
    obtain ⟨⟨q', u⟩, hm, e⟩ := List.mem_map.mp hq
    obtain ⟨j, hj⟩ := List.getElem?_of_mem hm
    exact hn j q' u hj e
section
variable {X : Cx} {C : Addr} {ρ : DE} {M : Mem} {P : Po} {s : Stmt} {ss rest : List Stmt}
/-- any of them -/
def tAs (X : Cx) (C : Addr) (ss : List Stmt) : TS := fun D σ H => ∃ ρ M P, SDs X C ss ρ M P ∧ tS C ρ M P D σ H
theorem pss_any : PSs X ss (tAs X C ss) := ⟨fun pins s σ H D I ⟨ρ, M, P, h, t⟩ => h.run pins s σ H D I t⟩
theorem sds_nil (h : P.nx ρ M) : SDs X C [] ρ M P := PSs.imp pss_nil fun D σ H ⟨Fb, Hb, F, b, I, q⟩ => q.nx ρ M σ F H h b I
theorem sds_cons (h : SD X C s ρ M { P with nx := fun ρ' M' => SDs X C rest ρ' M' P }) : SDs X C (s :: rest) ρ M P :=
  PSs.imp (pss_cons h pss_any) fun D σ H ⟨Fb, Hb, F, b, I, q⟩ => ⟨Fb, Hb, F, b, I, ⟨fun ρ' M' σ' F' H' h' b' I' => ⟨ρ', M', P, h', Fb, Hb, F', b', I', q⟩, q.bk, q.ct, q.rt⟩⟩
theorem sd_of (h : SDs X C [s] ρ M P) : SDs X C [s] ρ M P := h
theorem SDs.le {ρ' : DE} (h : SDs X C ss ρ' M P) (l : Le ρ' ρ) : SDs X C ss ρ M P := PSs.imp h fun D σ H ⟨Fb, Hb, F, b, I, q⟩ => ⟨Fb, Hb, F, b, I.le l, q⟩
theorem SD.mono {P' : Po} (h : SD X C s ρ M P') (n : ∀ ρ M, P'.nx ρ M → P.nx ρ M) (r : ∀ d M, P'.rt d M → P.rt d M) (b : ∀ ρ M, P'.bk ρ M → P.bk ρ M) (c : ∀ ρ M, P'.ct ρ M → P.ct ρ M) : SD X C s ρ M P :=
  PS.imp h fun D σ H ⟨Fb, Hb, F, b', I, q⟩ => ⟨Fb, Hb, F, b', I, ⟨fun ρ M σ F H z => q.nx ρ M σ F H (n _ _ z), fun ρ M σ F H z => q.bk ρ M σ F H (b _ _ z), fun ρ M σ F H z => q.ct ρ M σ F H (c _ _ z), fun v d M F H z => q.rt v d M F H (r _ _ z)⟩⟩
/-- an object that changes no more -/
theorem sds_freeze (n i : Nat) {p : Addr} {d0 : Dt} (h : SDs X C ss (ρ.set i (some d0)) (M.eraseIdx n) P) (hM : M[n]? = some (p, d0) := by rfl) (hi : ρ[i]? = some (some (.ref p)) := by rfl) (hv : vw d0 = true := by rfl) : SDs X C ss ρ M P :=
  PSs.imp h fun D σ H ⟨Fb, Hb, F, b, I, q⟩ => by
    obtain ⟨h, hp, hf, I'⟩ := view_en I hM hi hv
    refine ⟨Fb, Hb, _, ⟨b.x.join hp (b.n n p d0 hM) hf, fun j q e hj => ?_⟩, I', q⟩
    rw [List.getElem?_eraseIdx] at hj
    by_cases hjn : j < n
    · rw [if_pos hjn] at hj; exact b.n j q e hj
    · rw [if_neg hjn] at hj; exact b.n (j + 1) q e hj
/-! ### assignments -/
variable {e c : Expr} {d : Dt} {ds : List Dt} {pos pos' : Pos} {a b : List Stmt}
theorem sd_set (i : Nat) {x : Str} (he : Ev X C ρ M e d) (h : P.nx (ρ.set i (some d)) M) (hN : X.N.Nodup) (hi : X.N[i]? = some x := by rfl) (hx : Loc X.env.scope x := by first | exact Or.inl rfl | exact Or.inr rfl) (hs : swapsWith e (some (.Name x pos')) pos.line X.env = pure false := by rfl)
    (hf : X.fn x = true ∨ X.env.scope.names.lookup x = some .local := by first | exact .inl rfl | exact .inr rfl | assumption) : SD X C (.Assign [.Name x pos'] e pos) ρ M P :=
  PS.imp (ps_set hN hi hx he hs hf) fun D σ H ⟨Fb, Hb, F, b, I, q⟩ => ⟨F, I, fun v F1 H1 e1 r => q.nx _ M _ F1 H1 h (b.ext e1) ((I.ext e1).set r)⟩
/-- a new list that will change -/
theorem sd_setN (i : Nat) {x : Str} (he : EvN X C ρ M e ds) (h : ∀ p, P.nx (ρ.set i (some (.ref p))) (M ++ [(p, .lst ds)])) (hN : X.N.Nodup) (hi : X.N[i]? = some x := by rfl) (hx : Loc X.env.scope x := by first | exact Or.inl rfl | exact Or.inr rfl) (hs : swapsWith e (some (.Name x pos')) pos.line X.env = pure false := by rfl)
    (hf : X.fn x = true ∨ X.env.scope.names.lookup x = some .local := by first | exact .inl rfl | exact .inr rfl | assumption) : SD X C (.Assign [.Name x pos'] e pos) ρ M P :=
  PS.imp (ps_set hN hi hx he hs hf) fun D σ H ⟨Fb, Hb, F, b, I, q⟩ => ⟨F, I, fun p xs F1 H1 hp e1 hf hH r => by
    have I1 := I.ext e1
    have I2 : En C F1 ρ (M ++ [(p, .lst ds)]) σ H1 := ⟨I1.fh, I1.len, I1.sl, I1.m.push hf hH ⟨xs, rfl, r⟩ fun j q u hj z => by
      obtain ⟨_, o, ho, _⟩ := I.m.m j q u hj
      rw [z, hp] at ho
      cases ho⟩
    refine q.nx _ _ _ F1 H1 (h p) ⟨b.x.trans e1, fun j q u hj => ?_⟩ (I2.set (.ref p))
    rw [List.getElem?_append] at hj
    split at hj
    · exact b.n j q u hj
    · rw [List.getElem?_singleton] at hj
      split at hj
      · cases hj
        exact b.x.free hp
      · cases hj⟩
theorem sd_ret (he : Ev X C ρ M e d) (h : P.rt d M) : SD X C (.Return (some e) pos) ρ M P :=
  PS.imp (ps_ret he) fun D σ H ⟨Fb, Hb, F, b, I, q⟩ => ⟨F, I, fun v F1 H1 e1 r => q.rt v d M F1 H1 h (b.ext e1) (I.m.ext e1) r⟩
theorem sd_expr (he : Ev X C ρ M e d) (h : P.nx ρ M) (hs : swapsWith e none pos.line X.env = pure false := by rfl) : SD X C (.Expr e pos) ρ M P :=
  PS.imp (ps_expr he hs) fun D σ H ⟨Fb, Hb, F, b, I, q⟩ => ⟨F, I, fun v F1 H1 e1 r => q.nx ρ M σ F1 H1 h (b.ext e1) (I.ext e1)⟩
theorem sd_doc {x j} : P.nx ρ M → SD X C (.Expr (.Constant (.str x) j pos) pos') ρ M P := fun h => PS.imp ps_doc fun D σ H ⟨Fb, Hb, F, b, I, q⟩ => q.nx ρ M σ F H h b I
theorem sd_brk (h : P.bk ρ M) : SD X C (.Break pos) ρ M P := PS.imp ps_break fun D σ H ⟨Fb, Hb, F, b, I, q⟩ => q.bk ρ M σ F H h b I
theorem sd_cont (h : P.ct ρ M) : SD X C (.Continue pos) ρ M P := PS.imp ps_continue fun D σ H ⟨Fb, Hb, F, b, I, q⟩ => q.ct ρ M σ F H h b I
theorem sd_if {k : Bool} (hc : EvT X C ρ M c k) (ha : k = true → SDs X C a ρ M P) (hb : k = false → SDs X C b ρ M P) : SD X C (.If c a b pos) ρ M P :=
  PS.imp (ps_if hc (pss_any (C := C)) (pss_any (C := C))) fun D σ H ⟨Fb, Hb, F, b, I, q⟩ => ⟨F, I, fun F1 H1 e1 => by
    cases k with
    | true =>
      rw [if_pos rfl]
      exact ⟨ρ, M, P, ha rfl, Fb, Hb, F1, b.ext e1, I.ext e1, q⟩
    | false =>
      rw [if_neg Bool.false_ne_true]
      exact ⟨ρ, M, P, hb rfl, Fb, Hb, F1, b.ext e1, I.ext e1, q⟩⟩
theorem sd_aug {i : Nat} {x : Str} {m n : Int} (hi' : ρ[i]? = some (some (.int m))) (he : Ev X C ρ M e (.int n)) (h : P.nx (ρ.set i (some (.int (m + n)))) M) (hN : X.N.Nodup) (hi : X.N[i]? = some x := by rfl) (hx : Loc X.env.scope x := by first | exact Or.inl rfl | exact Or.inr rfl)
    (hf : X.fn x = true ∨ X.env.scope.names.lookup x = some .local := by first | exact .inl rfl | exact .inr rfl | assumption) : SD X C (.AugAssign (.Name x pos') .Add e pos) ρ M P :=
  PS.imp (ps_aug hN hi hx he ip_add hf) fun D σ H ⟨Fb, Hb, F, b, I, q⟩ => by
    obtain ⟨v, h1, h2⟩ := I.sl i _ hi'
    exact ⟨v, h1, F, I, fun y F1 H1 e1 r => ⟨m, n, h2.inj_int, r.inj_int, q.nx _ M _ F1 H1 h (b.ext e1) ((I.ext e1).set (.int _))⟩⟩
/-! ### objects that change -/
theorem chg_ok {F H : Hp} {σ : L2.St} {n : Nat} {p : Addr} {d0 d1 : Dt} {h1 : HO} (I : En C F ρ M σ H) (hM : M[n]? = some (p, d0)) (r : RepO C F h1 d1) : En C F ρ (M.set n (p, d1)) σ (upd H p h1) := by
  obtain ⟨f0, _⟩ := I.m.m n p d0 hM
  have hn : n < M.length := (List.getElem?_eq_some_iff.mp hM).1
  refine ⟨fun b u q => ?_, I.len, I.sl, ⟨fun j q u hj => ?_, ?_⟩⟩
  · have hb : b ≠ p := fun z => by rw [z, f0] at q; cases q
    rw [upd_ne hb]
    exact I.fh b u q
  · by_cases hj' : n = j
    · subst hj'
      rw [List.getElem?_set_self hn] at hj
      cases hj
      exact ⟨f0, h1, upd_same, r⟩
    · rw [List.getElem?_set_ne hj'] at hj
      obtain ⟨g1, g, g2, g3⟩ := I.m.m j q u hj
      have hqp : q ≠ p := fun z => by
        subst z
        have a1 : (M.map (·.1))[j]? = some q := by rw [List.getElem?_map, hj]; rfl
        have a2 : (M.map (·.1))[n]? = some q := by rw [List.getElem?_map, hM]; rfl
        exact hj' (nd_ix I.m.nd a1 a2).symm
      exact ⟨g1, g, by rw [upd_ne hqp]; exact g2, g3⟩
  · have : (M.set n (p, d1)).map (·.1) = M.map (·.1) := by
      rw [List.map_set]
      have hp : (M.map (·.1))[n]? = some p := by rw [List.getElem?_map, hM]; rfl
      obtain ⟨h1, h2⟩ := List.getElem?_eq_some_iff.mp hp
      show (M.map (·.1)).set n p = _
      rw [← h2]
      exact List.set_getElem_self h1
    rw [this]
    exact I.m.nd
theorem chg_bs {Fb Hb F H : Hp} {n : Nat} {p : Addr} {d0 d1 : Dt} {h1 : HO} (b : Bs Fb Hb M F H) (m : MOk C F H M) (hM : M[n]? = some (p, d0)) : Bs Fb Hb (M.set n (p, d1)) F (upd H p h1) := by
  have hb := b.n n p d0 hM
  obtain ⟨f0, _⟩ := m.m n p d0 hM
  refine ⟨⟨fun a u q => ?_, b.x.f, fun a u q => ?_, b.x.old⟩, fun j q u hj => ?_⟩
  · have ha : a ≠ p := fun z => by rw [z, hb] at q; cases q
    rw [upd_ne ha]
    exact b.x.h a u q
  · have ha : a ≠ p := fun z => by rw [z, f0] at q; cases q
    rw [upd_ne ha]
    exact b.x.fh a u q
  · by_cases hj' : n = j
    · subst hj'
      have hn : n < M.length := (List.getElem?_eq_some_iff.mp hM).1
      rw [List.getElem?_set_self hn] at hj
      cases hj
      exact hb
    · rw [List.getElem?_set_ne hj'] at hj
      exact b.n j q u hj
/-- o.append(e) -/
theorem sd_app (n : Nat) {p : Addr} {o : Expr} {apos : Pos} (ho : Ev X C ρ M o (.ref p)) (he : Ev X C ρ M e d) (hM : M[n]? = some (p, .lst ds)) (hl : ds.length ≤ 100000) (h : P.nx ρ (M.set n (p, .lst (ds ++ [d]))))
    (hbase : attributeBase o "append" X.env (eval o X.env) = eval o X.env := by rfl)
    (hfew : ((backTo pos (starEach [e] X.env)).all (fun x => !x.1) && (backToKw pos (keywordEach [] X.env)).all (fun x => x.1.isSome)
      && decide ([e].length + ([] : List Keyword).length + (if ([] : List Keyword).isEmpty then 0 else 1) < 30)) = true := by rfl)
    (hline : (apos.endLine == pos.line) = true := by rfl) (hs : starEach [e] X.env = (false, eval e X.env) :: starEach [] X.env := by rfl) (hsw : swapsWith (.Call (.Attribute o "append" apos) [e] [] pos) none pos'.line X.env = pure false := by rfl) : SD X C (.Expr (.Call (.Attribute o "append" apos) [e] [] pos) pos') ρ M P :=
  PS.imp (ps_expr (pe_bm PySem.F.plainAttrs_list PySem.F.slot_list_append PySem.F.type_list_append mt_append ho (pa_cons he pa_nil hs) hbase hfew hline hs) hsw) fun D σ H ⟨Fb, Hb, F, b, I, q⟩ => ⟨F, I, fun v F1 H1 e1 r1 => by
    have I1 := I.ext e1
    obtain ⟨f1, h1, hh, xs, rfl, rx⟩ := I1.m.m n p _ hM
    have ev := r1.inj_ref
    subst ev
    refine ⟨.inl ⟨rfl, xs, .of hh⟩, F1, I1, fun w F2 H2 e2 r2 => ?_⟩
    have I2 := I1.ext e2
    refine ⟨p, xs, w, rfl, rfl, e2.h _ _ hh, ?_, ?_⟩
    · rw [rx.length]; exact Nat.lt_of_le_of_lt hl (by decide)
    · exact q.nx _ _ _ F2 _ h (chg_bs (C := C) ((b.ext e1).ext e2) I2.m hM) (chg_ok I2 hM ⟨_, rfl, (rx.to e2.f).snoc r2⟩)⟩
/-! ### targets -/
/-- storing a datum into the slots -/
abbrev Stor := DE → Dt → Option DE
def stN (i : Nat) : Stor := fun ρ d => some (ρ.set i (some d))
def stL : List Stor → List Dt → DE → Option DE
  | [], [], ρ => some ρ
  | s :: ss, d :: ds, ρ => (s ρ d).bind (stL ss ds)
  | _, _, _ => none
def stT (ss : List Stor) : Stor := fun ρ d => match d with
  | .tup ds => stL ss ds ρ
  | _ => none
/-- but for the slots sl all is as it was -/
def But (sl : List Nat) (σ σ' : L2.St) : Prop := ∀ vs, (∀ i ∈ sl, i ∈ vs) → wipe σ' vs = wipe σ vs
def Sto (C : Addr) (g : TG) (st : Stor) (sl : List Nat) : Prop := ∀ (ρ ρ' : DE) (M : Mem) (d : Dt) (x : V) (F H : Hp) (σ : L2.St) (Q : L2.St → Hp → Prop), st ρ d = some ρ' → En C F ρ M σ H → Rp C F x d → (∀ σ', En C F ρ' M σ' H → But sl σ σ' → Q σ' H) → g x σ H Q
def Stos (C : Addr) (g : TGs) (ss : List Stor) (sl : List Nat) : Prop := ∀ (ρ ρ' : DE) (M : Mem) (ds : List Dt) (xs : List V) (F H : Hp) (σ : L2.St) (Q : L2.St → Hp → Prop), stL ss ds ρ = some ρ' → En C F ρ M σ H → RpAll C F xs ds → (∀ σ', En C F ρ' M σ' H → But sl σ σ' → Q σ' H) → g xs σ H Q
theorem wipe_set {σ : L2.St} {i : Nat} {x : Option V} : ∀ {vs : List Nat}, i ∈ vs → wipe (σ.set i x) vs = wipe σ vs
  | v :: vs, h => by
    show (wipe (σ.set i x) vs).set v none = (wipe σ vs).set v none
    by_cases e : i ∈ vs
    · rw [wipe_set e]
    · have hv : i = v := by
        rcases List.mem_cons.mp h with q | q
        · exact q
        · exact absurd q e
      subst hv
      have go : ∀ (vs : List Nat) (σ : L2.St), i ∉ vs → wipe (σ.set i x) vs = (wipe σ vs).set i x := by
        intro vs
        induction vs with
        | nil => intro σ _; rfl
        | cons w vs ih =>
          intro σ hn
          show (wipe (σ.set i x) vs).set w none = ((wipe σ vs).set w none).set i x
          rw [ih σ (fun z => hn (List.mem_cons_of_mem _ z)), List.set_comm _ _ (fun z => hn (by rw [z]; exact List.mem_cons_self))]
      rw [go vs σ e, List.set_set]
theorem wipe_wipe {σ : L2.St} : ∀ {vs : List Nat}, wipe (wipe σ vs) vs = wipe σ vs := by
  have go : ∀ (us vs : List Nat) (σ : L2.St), (∀ i ∈ us, i ∈ vs) → wipe (wipe σ us) vs = wipe σ vs := by
    intro us
    induction us with
    | nil => intro vs σ _; rfl
    | cons u us ih =>
      intro vs σ h
      show wipe ((wipe σ us).set u none) vs = wipe σ vs
      rw [wipe_set (h u List.mem_cons_self), ih vs σ fun i hi => h i (List.mem_cons_of_mem _ hi)]
  exact fun {vs} => go vs vs σ fun i hi => hi
/-- in every context of XS -/
structure EvG (XS : Cx → Prop) (C : Addr) (tg : Expr) (st : Stor) (sl : List Nat) : Prop where
  ex : ∃ g, (∀ X, XS X → PG X tg g) ∧ Sto C g st sl
structure EvGs (XS : Cx → Prop) (C : Addr) (tg : List Expr) (st : List Stor) (sl : List Nat) : Prop where
  ex : ∃ g, (∀ X, XS X → PGs X tg g) ∧ Stos C g st sl
abbrev Xq (X : Cx) : Cx → Prop := fun Y => Y = X
/-- the contexts of a block -/
def Xb (X : Cx) (scope : Scope) : Cx → Prop := fun Y => ∃ (s : Shared) (H : Hp) (E : Addr) (cl : List (Str × Addr)) (fp : List Addr), Y = X.blk s H scope (compEnvC scope cl E X.env) fp
variable {XS : Cx → Prop}
theorem eg_n' (i : Nat) {x : Str} (hN : ∀ X, XS X → X.N.Nodup) (hi : ∀ X, XS X → X.N[i]? = some x) (hx : ∀ X, XS X → L2.Loc X.env.scope x) (hf : ∀ X, XS X → (X.fn x = true ∨ X.env.scope.names.lookup x = some .local)) : EvG XS C (.Name x pos) (stN i) [i] :=
  ⟨gName i, fun X h => pg_name (hN X h) (hi X h) (hx X h) (hf X h), fun ρ ρ' M d x F H σ Q hs I r q => by
    cases hs
    exact q _ (I.set r) fun vs hv => wipe_set (hv i List.mem_cons_self)⟩
theorem egs_nil : EvGs XS C [] [] [] := ⟨gNil, fun X h => pgs_nil, fun ρ ρ' M ds xs F H σ Q hs I r q => by
  cases ds with
  | nil => cases hs; exact ⟨r.nil_inv, q _ I fun _ _ => rfl⟩
  | cons _ _ => cases hs⟩
theorem egs_cons {es : List Expr} {st : Stor} {ss : List Stor} {sl sl' : List Nat} (h : EvG XS C e st sl) (hr : EvGs XS C es ss sl') (hs : ∀ X, XS X → (assignEach (e :: es) X.env).map (·.2) = assign e X.env :: (assignEach es X.env).map (·.2) := by intros; rfl) : EvGs XS C (e :: es) (st :: ss) (sl ++ sl') := by
  obtain ⟨g, h1, h2⟩ := h.ex
  obtain ⟨u, u1, u2⟩ := hr.ex
  refine ⟨gCons g u, fun X h => pgs_cons (h1 X h) (u1 X h) (hs X h), fun ρ ρ' M ds xs F H σ Q hs I r q => ?_⟩
  cases ds with
  | nil => cases hs
  | cons d ds =>
    obtain ⟨v, vs, rfl, rv, rs⟩ := r.cons_inv
    obtain ⟨ρ1, e1, e2⟩ := Option.bind_eq_some_iff.mp (show (st ρ d).bind (stL ss ds) = some ρ' from hs)
    exact ⟨v, vs, rfl, h2 ρ ρ1 M d v F H σ _ e1 I rv fun σ' I' b' => u2 ρ1 ρ' M ds vs F H σ' _ e2 I' rs fun σ2 I2 b2 => q σ2 I2 fun vs hv => (b2 vs fun i hi => hv i (List.mem_append_right _ hi)).trans (b' vs fun i hi => hv i (List.mem_append_left _ hi))⟩
theorem stL_length : ∀ {ss : List Stor} {ds : List Dt} {ρ ρ' : DE}, stL ss ds ρ = some ρ' → ds.length = ss.length
  | [], [], _, _, _ => rfl
  | [], _ :: _, _, _, h => by cases h
  | _ :: _, [], _, _, h => by cases h
  | s :: ss, d :: ds, ρ, ρ', h => by
    obtain ⟨ρ1, e1, e2⟩ := Option.bind_eq_some_iff.mp (show (s ρ d).bind (stL ss ds) = some ρ' from h)
    simp [stL_length e2]
theorem eg_t' {K : PySem.W.Frag} {es : List Expr} {z : Nat} {ss : List Stor} {sl : List Nat} (hK : ∀ X, XS X → X.K = K) (hc : ∀ X, XS X → X.calm = true) (h : EvGs XS C es ss sl) (hn : ∀ X, XS X → (assignEach es X.env).length = ss.length) (hst : ∀ X, XS X → (assignEach es X.env).findIdx? (·.1) = none) : EvG XS C (.Tuple es z pos) (stT ss) sl := by
  obtain ⟨u, u1, u2⟩ := h.ex
  refine ⟨gTup K ss.length u, fun X h => (hK X h) ▸ pg_tup (hc X h) (u1 X h) (hn X h) (hst X h), fun ρ ρ' M d x F H σ Q hs I r q => ?_⟩
  cases d with
  | tup ds =>
    obtain ⟨a, xs, rfl, ha, rs⟩ := r.inj_tup
    have hs : stL ss ds ρ = some ρ' := hs
    exact ⟨a, xs, rfl, .of (I.fh _ _ ha), by rw [rs.length, stL_length hs], u2 ρ ρ' M ds xs F H σ Q hs I rs q⟩
  | _ => cases hs
/-! plain ones; in a block -/
theorem eg_n (i : Nat) {x : Str} (hN : X.N.Nodup) (hi : X.N[i]? = some x := by rfl) (hx : L2.Loc X.env.scope x := by first | exact Or.inl rfl | exact Or.inr rfl) (hf : X.fn x = true ∨ X.env.scope.names.lookup x = some .local := by first | exact .inl rfl | exact .inr rfl | assumption) : EvG (Xq X) C (.Name x pos) (stN i) [i] :=
  eg_n' i (fun _ h => h ▸ hN) (fun _ h => h ▸ hi) (fun _ h => h ▸ hx) (fun _ h => h ▸ hf)
theorem eg_t {es : List Expr} {z : Nat} {ss : List Stor} {sl : List Nat} (h : EvGs (Xq X) C es ss sl) (hc : X.calm = true := by rfl) (hn : (assignEach es X.env).length = ss.length := by rfl) (hst : (assignEach es X.env).findIdx? (·.1) = none := by rfl) : EvG (Xq X) C (.Tuple es z pos) (stT ss) sl :=
  eg_t' (fun _ h => congrArg Cx.K h) (fun _ h => h ▸ hc) h (fun _ h => h ▸ hn) (fun _ h => h ▸ hst)
theorem eb_n {scope : Scope} (i : Nat) {x : Str} (hN : X.N.Nodup) (hi : X.N[i]? = some x := by rfl) (hx : ∀ (E : Addr) (cl : List (Str × Addr)), L2.Loc (compEnvC scope cl E X.env).scope x := by first | exact fun _ _ => Or.inl rfl | exact fun _ _ => Or.inr rfl) (hf : ∀ (E : Addr) (cl : List (Str × Addr)), (scope.names.lookup x == some .cell) = true ∨ (compEnvC scope cl E X.env).scope.names.lookup x = some .local := by first | exact fun _ _ => .inr rfl | exact fun _ _ => .inl rfl) : EvG (Xb X scope) C (.Name x pos) (stN i) [i] := by
  refine eg_n' i ?_ ?_ ?_ ?_ <;> rintro _ ⟨s, H, E, cl, fp, rfl⟩
  · exact hN
  · exact hi
  · exact hx E cl
  · exact hf E cl
theorem eb_t {scope : Scope} {es : List Expr} {z : Nat} {ss : List Stor} {sl : List Nat} (h : EvGs (Xb X scope) C es ss sl) (hc : X.calm = true := by rfl) (hn : ∀ env : Env, (assignEach es env).length = ss.length := by intro _; rfl) (hst : ∀ env : Env, (assignEach es env).findIdx? (·.1) = none := by intro _; rfl) : EvG (Xb X scope) C (.Tuple es z pos) (stT ss) sl := by
  refine eg_t' (K := X.K) ?_ ?_ h ?_ ?_ <;> rintro _ ⟨s, H, E, cl, fp, rfl⟩
  · rfl
  · exact hc
  · exact hn _
  · exact hst _
/-- tg = e -/
theorem sd_asg {tg : Expr} {st : Stor} {sl : List Nat} {ρ' : DE} (he : Ev X C ρ M e d) (hg : EvG (Xq X) C tg st sl) (hst : st ρ d = some ρ') (h : P.nx ρ' M) (hs : swapsWithSole [tg] e pos.line X.env = pure false := by rfl) (hw : swappedStores [tg] e X.env = pure none := by rfl)
    (h1 : (assignEach [tg] X.env).map (·.2) = [assign tg X.env] := by rfl) : SD X C (.Assign [tg] e pos) ρ M P := by
  obtain ⟨g, g1, g2⟩ := hg.ex
  exact PS.imp (ps_asg he (g1 X rfl) hs hw h1) fun D σ H ⟨Fb, Hb, F, b, I, q⟩ => ⟨F, I, fun v F1 H1 e1 r => g2 ρ ρ' M d v F1 H1 σ _ hst (I.ext e1) r fun σ' I' _ => q.nx ρ' M σ' F1 H1 h (b.ext e1) I'⟩
/-! ### walks -/
/-- J walks the data ds while F0 stands -/
def DW (C : Addr) (J : It) (ds : List Dt) (F0 : Hp) : Prop :=
  Walk J ds.length (fun H => Same F0 H) (fun i H x H' => ∃ d, ds[i]? = some d ∧ ∀ F, Same F0 F → Same F H → ∃ F', Ext F H F' H' ∧ Rp C F' x d)
def tRI (C : Addr) (ρ : DE) (M : Mem) (ds : List Dt) : TI := fun σ H R => ∃ F, En C F ρ M σ H ∧ ∀ J F' H', Ext F H F' H' → DW C J ds F' → R J H'
def EvI (X : Cx) (C : Addr) (ρ : DE) (M : Mem) (tg e : Expr) (ds : List Dt) : Prop := PI X tg e (tRI C ρ M ds)
theorem PI.imp {X : Cx} {tg e : Expr} {t t' : TI} (h : PI X tg e t) (k : ∀ σ H R, t' σ H R → t σ H R) : PI X tg e t' := ⟨fun pins s σ H R I hw => h.run pins s σ H R I (k σ H R hw)⟩
theorem dw_list {K : PySem.W.Frag} {F : Hp} {a : Addr} {xs : List V} (h : F a = some (.lst xs)) (r : RpAll C F xs ds) : DW C (Itl K a) ds F := by
  have w := walk_list (K := K) (a := a) (xs := xs)
  rw [r.length] at w
  refine w.mono (fun H e => .of (e _ _ h)) fun i H x H' hi e ⟨y1, y2⟩ => ?_
  subst y1
  obtain ⟨d, e1, e2⟩ := r.get y2
  exact ⟨d, e1, fun F1 s1 s2 => ⟨F1, .refl s2, e2.to s1⟩⟩
theorem dw_tup {K : PySem.W.Frag} {F : Hp} {a : Addr} {xs : List V} (h : F a = some (.tup xs)) (r : RpAll C F xs ds) : DW C (Itt K a) ds F := by
  have w := walk_tup (K := K) (a := a) (xs := xs)
  rw [r.length] at w
  refine w.mono (fun H e => .of (e _ _ h)) fun i H x H' hi e ⟨y1, y2⟩ => ?_
  subst y1
  obtain ⟨d, e1, e2⟩ := r.get y2
  exact ⟨d, e1, fun F1 s1 s2 => ⟨F1, .refl s2, e2.to s1⟩⟩
theorem dw_range {lo : Int} {n : Nat} {F : Hp} : DW C (Itr lo n) ((List.range n).map fun i : Nat => .int (lo + i)) F := by
  have w := walk_range (lo := lo) (n := n)
  have hl : ((List.range n).map fun i : Nat => Dt.int (lo + i)).length = n := by simp
  unfold DW
  rw [hl]
  refine w.mono (fun H e => trivial) fun i H x H' hi e ⟨y1, y2⟩ => ?_
  subst y1
  subst y2
  exact ⟨.int (lo + i), by simp [hi], fun F1 s1 s2 => ⟨F1, .refl s2, .int _⟩⟩
variable {tg : Expr}
theorem ei_lst (h : Ev X C ρ M e (.lst ds)) : EvI X C ρ M tg e ds := PI.imp (pi_list h) fun σ H R ⟨F, I, q⟩ => ⟨F, I, fun v F1 H1 e1 r => by
  obtain ⟨a, xs, rfl, hs, ra⟩ := r.inj_lst
  exact ⟨a, rfl, ⟨xs, .of (e1.fh _ _ hs)⟩, q _ F1 H1 e1 (dw_list hs ra)⟩⟩
theorem ei_tup (h : Ev X C ρ M e (.tup ds)) : EvI X C ρ M tg e ds := PI.imp (pi_tup h) fun σ H R ⟨F, I, q⟩ => ⟨F, I, fun v F1 H1 e1 r => by
  obtain ⟨a, xs, rfl, hs, ra⟩ := r.inj_tup
  exact ⟨a, rfl, ⟨xs, .of (e1.fh _ _ hs)⟩, q _ F1 H1 e1 (dw_tup hs ra)⟩⟩
theorem ei_range {a : Expr} {n : Nat} {p : Pos} (ha : Ev X C ρ M a (.int n)) (hn : n ≤ 100000) (hg : Gl X "range" := by rfl) (hm : X.mg "range" = none) (hs : starEach [a] X.env = [(false, eval a X.env)] := by rfl) :
    EvI X C ρ M tg (.Call (.Name "range" p) [a] [] pos) ((List.range n).map fun i : Nat => .int (0 + i)) :=
  PI.imp (pi_range1 hg hm (pa_cons ha pa_nil hs) hs) fun σ H R ⟨F, I, q⟩ => ⟨F, I, fun v F1 H1 e1 r => by
    have := r.inj_int
    subst this
    refine ⟨n, rfl, by omega, by omega, ?_⟩
    rw [Int.toNat_natCast]
    exact q _ F1 H1 e1 dw_range⟩
/-! ### for, while -/
/-- the heap without the objects that change -/
def hw (M : Mem) (H : Hp) : Hp := fun b => if b ∈ M.map (·.1) then none else H b
theorem hw_in {H : Hp} {b : Addr} (h : b ∈ M.map (·.1)) : hw M H b = none := if_pos h
theorem hw_out {H : Hp} {b : Addr} (h : ¬ b ∈ M.map (·.1)) : hw M H b = H b := if_neg h
theorem hw_same {H : Hp} : Same (hw M H) H := fun b o e => by
  by_cases h : b ∈ M.map (·.1)
  · rw [hw_in h] at e; cases e
  · rwa [hw_out h] at e
theorem mem_of_ix {n : Nat} {p : Addr} (h : M[n]? = some (p, d)) : p ∈ M.map (·.1) := List.mem_map.mpr ⟨_, List.mem_of_getElem? h, rfl⟩
theorem ix_of_mem {p : Addr} (h : p ∈ M.map (·.1)) : ∃ (n : Nat) (d : Dt), M[n]? = some (p, d) := by
  obtain ⟨⟨q, d⟩, hm, rfl⟩ := List.mem_map.mp h
  obtain ⟨n, hn⟩ := List.getElem?_of_mem hm
  exact ⟨n, d, hn⟩
theorem rebase {Fb Hb F H : Hp} (b : Bs Fb Hb M F H) (m : MOk C F H M) : Bs F (hw M H) M F H := ⟨⟨hw_same, .refl _, b.x.fh, fun _ _ => rfl⟩, fun i p d h => hw_in (mem_of_ix h)⟩
theorem unbase {Fb Hb F H F1 H1 : Hp} {M1 : Mem} (b : Bs Fb Hb M F H) (b1 : Bs F (hw M H) M1 F1 H1) : Bs Fb Hb M1 F1 H1 := by
  have hs : Same Hb (hw M H) := fun a o e => by
    have hn : ¬ a ∈ M.map (·.1) := fun z => by
      obtain ⟨n, d, hn⟩ := ix_of_mem z
      rw [b.n n a d hn] at e
      cases e
    rw [hw_out hn]
    exact b.x.h a o e
  refine ⟨⟨hs.trans b1.x.h, b.x.f.trans b1.x.f, b1.x.fh, fun a ha => ?_⟩, fun i p d h => hs.free (b1.n i p d h)⟩
  rw [b1.x.old a (ha.same hs), b.x.old a ha]
theorem Post.re {Fb Hb F H : Hp} {D : Ends} (b : Bs Fb Hb M F H) (q : Post C Fb Hb P D) : Post C F (hw M H) P D :=
  ⟨fun ρ M σ F H h b' I => q.nx ρ M σ F H h (unbase b b') I, fun ρ M σ F H h b' I => q.bk ρ M σ F H h (unbase b b') I, fun ρ M σ F H h b' I => q.ct ρ M σ F H h (unbase b b') I, fun v d M F H h b' m r => q.rt v d M F H h (unbase b b') m r⟩
theorem sd_for0 {ρ0 : DE} {st : Stor} {sl : List Nat} {body : List Stmt} (hi : EvI X C ρ M tg e ds) (hg : EvG (Xq X) C tg st sl) (l0 : Le ρ0 ρ) (I : Nat → DE → Mem → Prop) (h0 : I 0 ρ0 M)
    (hb : ∀ i d ρ1 M1, ds[i]? = some d → I i ρ1 M1 → ∃ ρ2, st ρ1 d = some ρ2 ∧ SDs X C body ρ2 M1 { nx := fun ρ' M' => ∃ ρ1, Le ρ1 ρ' ∧ I (i + 1) ρ1 M', ct := fun ρ' M' => ∃ ρ1, Le ρ1 ρ' ∧ I (i + 1) ρ1 M', bk := P.nx, rt := P.rt }) (he : ∀ ρ1 M1, I ds.length ρ1 M1 → P.nx ρ1 M1)
    (hc : X.calm = true := by rfl) (hp : PassesOwn (model X.prog X.w) X.A X.env X.xe := by exact PassesOwn.never) (hs : ∀ x, foldedSetIterable e X.env x = pure x := by intro _; rfl) : SD X C (.For tg e body [] pos) ρ M P := by
  obtain ⟨g, g1, g2⟩ := hg.ex
  refine PS.imp (ps_for hp hc hi (g1 X rfl) (pss_any (C := C)) hs) fun D σ H ⟨Fb, Hb, F, b, In, q⟩ => ⟨F, In, fun J F0 H0 e0 w => ?_⟩
  have b0 := b.ext e0
  have I0 := In.ext e0
  have rb := rebase (C := C) b0 I0.m
  have q0 : Post C F0 (hw M H0) P D := Post.re b0 q
  refine for_it w (fun i σ H => ∃ ρ1 M1 F1, I i ρ1 M1 ∧ Bs F0 (hw M H0) M1 F1 H ∧ En C F1 ρ1 M1 σ H) ⟨ρ0, M, F0, h0, rb, I0.le l0⟩ (fun i σ H _ ⟨ρ1, M1, F1, _, b1, I1⟩ => b1.x.f.trans I1.fh) (fun i x σ1 H1 H2 hi ⟨ρ1, M1, F1, w1, b1, I1⟩ ⟨d, hd, hF⟩ => ?_) fun σ H ⟨ρ1, M1, F1, w1, b1, I1⟩ => q0.nx ρ1 M1 σ F1 H (he ρ1 M1 w1) b1 I1
  obtain ⟨F2, e2, r2⟩ := hF F1 b1.x.f I1.fh
  obtain ⟨ρ2, s2, hbd⟩ := hb i d ρ1 M1 hd w1
  refine g2 ρ1 ρ2 M1 d x F2 H2 σ1 _ s2 (I1.ext e2) r2 fun σ2 I2 _ => ⟨ρ2, M1, _, hbd, F0, hw M H0, F2, b1.ext e2, I2, ?_⟩
  exact ⟨fun ρ M σ F H ⟨ρ1, l, h⟩ b' I' => ⟨ρ1, M, F, h, b', I'.le l⟩, fun ρ M σ F H h b' I' => q0.nx ρ M σ F H h b' I', fun ρ M σ F H ⟨ρ1, l, h⟩ b' I' => ⟨ρ1, M, F, h, b', I'.le l⟩, q0.rt⟩
theorem sd_for {st : Stor} {sl : List Nat} {body : List Stmt} (hi : EvI X C ρ M tg e ds) (hg : EvG (Xq X) C tg st sl) (I : Nat → DE → Mem → Prop) (h0 : I 0 ρ M)
    (hb : ∀ i d ρ1 M1, ds[i]? = some d → I i ρ1 M1 → ∃ ρ2, st ρ1 d = some ρ2 ∧ SDs X C body ρ2 M1 { nx := fun ρ' M' => ∃ ρ1, Le ρ1 ρ' ∧ I (i + 1) ρ1 M', ct := fun ρ' M' => ∃ ρ1, Le ρ1 ρ' ∧ I (i + 1) ρ1 M', bk := P.nx, rt := P.rt }) (he : ∀ ρ1 M1, I ds.length ρ1 M1 → P.nx ρ1 M1)
    (hc : X.calm = true := by rfl) (hp : PassesOwn (model X.prog X.w) X.A X.env X.xe := by exact PassesOwn.never) (hs : ∀ x, foldedSetIterable e X.env x = pure x := by intro _; rfl) : SD X C (.For tg e body [] pos) ρ M P :=
  sd_for0 hi hg .refl I h0 hb he hc hp hs
/-- .. over data that stand for xs; I by what was walked -/
theorem sd_forX {α : Type} {xs : List α} {enc : α → Dt} {st : Stor} {sl : List Nat} {body : List Stmt} (hi : EvI X C ρ M tg e (xs.map enc)) (hg : EvG (Xq X) C tg st sl) (I : List α → DE → Mem → Prop) (h0 : I [] ρ M)
    (hb : ∀ pre x post ρ1 M1, xs = pre ++ x :: post → I pre ρ1 M1 → ∃ ρ2, st ρ1 (enc x) = some ρ2 ∧ SDs X C body ρ2 M1 { nx := fun ρ' M' => ∃ ρ1, Le ρ1 ρ' ∧ I (pre ++ [x]) ρ1 M', ct := fun ρ' M' => ∃ ρ1, Le ρ1 ρ' ∧ I (pre ++ [x]) ρ1 M', bk := P.nx, rt := P.rt }) (he : ∀ ρ1 M1, I xs ρ1 M1 → P.nx ρ1 M1)
    (hc : X.calm = true := by rfl) (hp : PassesOwn (model X.prog X.w) X.A X.env X.xe := by exact PassesOwn.never) (hs : ∀ x, foldedSetIterable e X.env x = pure x := by intro _; rfl) : SD X C (.For tg e body [] pos) ρ M P := by
  refine sd_for hi hg (fun i => I (xs.take i)) (by simpa using h0) (fun i d ρ1 M1 hd hI => ?_) (fun ρ1 M1 hI => he ρ1 M1 (by simpa using hI)) hc hp hs
  rw [List.getElem?_map] at hd
  obtain ⟨x, hx, rfl⟩ := Option.map_eq_some_iff.mp hd
  obtain ⟨h1, h2⟩ := List.getElem?_eq_some_iff.mp hx
  have e0 : xs = xs.take i ++ x :: xs.drop (i + 1) := by rw [← h2, List.getElem_cons_drop, List.take_append_drop]
  have et : xs.take (i + 1) = xs.take i ++ [x] := by rw [List.take_add_one, hx]; rfl
  rw [et]
  exact hb _ x _ ρ1 M1 e0 hI
/-- .. where the state is told by what was walked -/
theorem sd_forS {α : Type} {xs : List α} {enc : α → Dt} {st : Stor} {sl : List Nat} {body : List Stmt} (hi : EvI X C ρ M tg e (xs.map enc)) (hg : EvG (Xq X) C tg st sl) (r : List α → DE) (m : List α → Mem) (h0 : Le (r []) ρ) (h0m : M = m [])
    (hb : ∀ pre x post, xs = pre ++ x :: post → ∃ ρ2, st (r pre) (enc x) = some ρ2 ∧ SDs X C body ρ2 (m pre) { nx := fun ρ' M' => ∃ ρ1, Le ρ1 ρ' ∧ (ρ1 = r (pre ++ [x]) ∧ M' = m (pre ++ [x])), ct := fun ρ' M' => ∃ ρ1, Le ρ1 ρ' ∧ (ρ1 = r (pre ++ [x]) ∧ M' = m (pre ++ [x])), bk := P.nx, rt := P.rt }) (he : P.nx (r xs) (m xs))
    (hc : X.calm = true := by rfl) (hp : PassesOwn (model X.prog X.w) X.A X.env X.xe := by exact PassesOwn.never) (hs : ∀ x, foldedSetIterable e X.env x = pure x := by intro _; rfl) : SD X C (.For tg e body [] pos) ρ M P := by
  refine sd_for0 hi hg h0 (fun i ρ1 M1 => ρ1 = r (xs.take i) ∧ M1 = m (xs.take i)) ⟨by simp, by simpa using h0m⟩ (fun i d ρ1 M1 hd hI => ?_) (fun ρ1 M1 hI => by rw [hI.1, hI.2, List.length_map, List.take_length]; exact he) hc hp hs
  rw [List.getElem?_map] at hd
  obtain ⟨x, hx, rfl⟩ := Option.map_eq_some_iff.mp hd
  obtain ⟨h1, h2⟩ := List.getElem?_eq_some_iff.mp hx
  have e0 : xs = xs.take i ++ x :: xs.drop (i + 1) := by rw [← h2, List.getElem_cons_drop, List.take_append_drop]
  have et : xs.take (i + 1) = xs.take i ++ [x] := by rw [List.take_add_one, hx]; rfl
  rw [et, hI.1, hI.2]
  exact hb _ x _ e0
theorem nx_of {r ρ' : DE} {m M' : Mem} (h : M' = m) (l : Le r ρ' := by repeat (first | exact Le.nil | apply Le.some | apply Le.none)) : ∃ ρ1, Le ρ1 ρ' ∧ (ρ1 = r ∧ M' = m) := ⟨r, l, rfl, h⟩
theorem sd_while {body : List Stmt} (I : Nat → DE → Mem → Prop) (n : Nat) (h0 : I n ρ M)
    (hb : ∀ m ρ1 M1, I m ρ1 M1 → ∃ k, EvT X C ρ1 M1 c k ∧ (k = true → SDs X C body ρ1 M1 { nx := fun ρ' M' => ∃ m' ρ1, m' < m ∧ Le ρ1 ρ' ∧ I m' ρ1 M', ct := fun ρ' M' => ∃ m' ρ1, m' < m ∧ Le ρ1 ρ' ∧ I m' ρ1 M', bk := P.nx, rt := P.rt }) ∧ (k = false → P.nx ρ1 M1))
    (hp : PassesOwn (model X.prog X.w) X.A X.env X.xe := by exact PassesOwn.never) : SD X C (.While c body [] pos) ρ M P := by
  have hc : PT X c (fun σ H Q => ∃ ρ M k, EvT X C ρ M c k ∧ tRT C ρ M k σ H Q) := ⟨fun pins s σ H Q I ⟨ρ, M, k, h, t⟩ => h.run pins s σ H Q I t⟩
  refine PS.imp (ps_while hp hc (pss_any (C := C))) fun D σ H ⟨Fb, Hb, F, b, In, q⟩ => ?_
  refine ⟨fun m σ H => ∃ ρ1 M1 F1, I m ρ1 M1 ∧ Bs Fb Hb M1 F1 H ∧ En C F1 ρ1 M1 σ H, ⟨n, ρ, M, F, h0, b, In⟩, ?_⟩
  rintro m σ1 H1 ⟨ρ1, M1, F1, w1, b1, I1⟩
  obtain ⟨k, hk, ht, hf⟩ := hb m ρ1 M1 w1
  refine ⟨ρ1, M1, k, hk, F1, I1, fun F2 H2 e2 => ?_⟩
  cases k with
  | true =>
    rw [if_pos rfl]
    refine ⟨fun σ H => ∃ m', m' < m ∧ ∃ ρ1 M1 F1, I m' ρ1 M1 ∧ Bs Fb Hb M1 F1 H ∧ En C F1 ρ1 M1 σ H, fun σ' H' h => h, ρ1, M1, _, ht rfl, Fb, Hb, F2, b1.ext e2, I1.ext e2, ?_⟩
    exact ⟨fun ρ M σ F H ⟨m', ρ1, h1, l, h2⟩ b' I' => ⟨m', h1, ρ1, M, F, h2, b', I'.le l⟩, fun ρ M σ F H h b' I' => q.nx ρ M σ F H h b' I', fun ρ M σ F H ⟨m', ρ1, h1, l, h2⟩ b' I' => ⟨m', h1, ρ1, M, F, h2, b', I'.le l⟩, q.rt⟩
  | false =>
    rw [if_neg Bool.false_ne_true]
    exact q.nx _ _ _ F2 H2 (hf rfl) (b1.ext e2) (I1.ext e2)
end

/-! ### defs -/
/-- a promise that speaks of data alone -/
def spD (C : Addr) (R : List Dt → Dt → Prop) : Sp := fun vs H Q _ => ∃ F ds d, Same F H ∧ RpAll C F vs ds ∧ R ds d ∧ ∀ v F' H', Ext F H F' H' → Rp C F' v d → Q v H'
/-- what may be called by its name -/
structure CalD (P : Program) (w : World) (K : PySem.W.Frag) (mg : Str → Option Value) (base : Heap) (C : Addr) (k : Nat) (x : Str) (R : List Dt → Dt → Prop) : Prop where
  ex : ∃ (f : Addr) (fd : FuncData) (ps : List Str), FnOk P w K mg base CX0 k f fd ps (spD C R) ∧ mg x = some (.ref f) ∧ PySem.W.keepIn K (.ref f) = true ∧ Binds K fd ps []
/-- the slots at the entry -/
def en0 (N : List Str) (ds : List Dt) : DE := ds.map some ++ List.replicate (N.length - ds.length) none
theorem en0_sl {C : Addr} {F : Hp} {N : List Str} {vs : List V} {ds : List Dt} (r : RpAll C F vs ds) {i : Nat} {d : Dt} (h : (en0 N ds)[i]? = some (some d)) : ∃ v, (L2.start N vs)[i]? = some (some v) ∧ Rp C F v d := by
  unfold en0 at h
  unfold L2.start
  rw [List.getElem?_append] at h ⊢
  rw [List.length_map] at h ⊢
  rw [r.length]
  split at h
  · rename_i hi
    rw [if_pos hi]
    rw [List.getElem?_map] at h
    cases hd : ds[i]? with
    | none => rw [hd] at h; cases h
    | some e =>
      rw [hd] at h
      cases h
      obtain ⟨v, hv, rv⟩ := r.at hd
      exact ⟨v, by rw [List.getElem?_map, hv]; rfl, rv⟩
  · rw [List.getElem?_replicate] at h
    split at h <;> cases h
theorem okD {P : Program} {w : World} {K : PySem.W.Frag} {mg : Str → Option Value} {base : Heap} {C : Addr} {k : Nat} {x qual : Str} {st : Stmt} {f : Addr} {fd : FuncData} {N ps : List Str} {R : List Dt → Dt → Prop} (F : Fun K x qual st f fd) (S : FnScope N ps (defScope st)) (hl : ∀ ds d, R ds d → ds.length = ps.length)
    (body : ∀ (cdv : Value) (A : Around) (outer : List Env) (s : Shared) (H : Hp) (E : XK) (ds : List Dt) (d : Dt), Room k (A.deeper (envOfC qual (defScope st) s.heap.objs.size f cdv)) → R ds d →
      SDs (cxOf CX0 P w K mg base N qual (defScope st) f cdv A outer s H E).nox C (defBody st) (en0 N ds) [] { nx := fun _ _ => d = .non, rt := fun d' _ => d' = d }) : FnOk P w K mg base CX0 (k + 1) f fd ps (spD C R) := by
  refine F.ok S (fun vs H Q E ⟨F, ds, d, _, r, h, _⟩ => by rw [r.length]; exact hl ds d h) fun cdv A outer s H vs Q E hr ⟨Fc, ds, d, e, r, h, q⟩ => ?_
  refine ⟨_, body cdv A outer s H E ds d hr h, Fc, H, Fc, ⟨.refl e, fun i p d hi => nomatch hi⟩, ⟨e, ?_, fun i d hi => en0_sl r hi, ⟨fun i p d hi => (nomatch hi), List.nodup_nil⟩⟩, ?_⟩
  · unfold L2.start en0
    rw [List.length_append, List.length_append, List.length_map, List.length_map, List.length_replicate, List.length_replicate, r.length]
  · refine ⟨fun ρ M σ F1 H1 hd b I => ?_, fun _ _ _ _ _ z => z.elim, fun _ _ _ _ _ z => z.elim, fun v d' M F1 H1 hd b m r' => ?_⟩
    · subst hd
      exact q .non F1 H1 b.x .non
    · subst hd
      exact q v F1 H1 b.x r'
theorem calD {P : Program} {w : World} {K : PySem.W.Frag} {mg : Str → Option Value} {base : Heap} {C : Addr} {k : Nat} {x : Str} {st : Stmt} {f : Addr} {fd : FuncData} {N ps : List Str} {R : List Dt → Dt → Prop} (F : Fun K x x st f fd) (S : FnScope N ps (defScope st)) (hm : mg x = some (.ref f))
    (hb : ∀ (kV doc pm : Value) (an : Option Addr) (cdv ct : Value) (us : List Value), us.length = ps.length → bindArgs (PySem.W.fnOf x x (defArgs st) (defBody st) (defScope st) .none kV doc pm an cdv ct) ⟨us, []⟩ = pure (ps.zip us))
    (hl : ∀ ds d, R ds d → ds.length = ps.length)
    (body : ∀ (cdv : Value) (A : Around) (outer : List Env) (s : Shared) (H : Hp) (E : XK) (ds : List Dt) (d : Dt), Room k (A.deeper (envOfC x (defScope st) s.heap.objs.size f cdv)) → R ds d →
      SDs (cxOf CX0 P w K mg base N x (defScope st) f cdv A outer s H E).nox C (defBody st) (en0 N ds) [] { nx := fun _ _ => d = .non, rt := fun d' _ => d' = d }) : CalD P w K mg base C (k + 1) x R :=
  ⟨f, fd, ps, okD F S hl body, hm, F.kp, F.binds hb⟩
section
variable {X : Cx} {C : Addr} {ρ : DE} {M : Mem} {e : Expr} {es : List Expr} {d : Dt} {ds : List Dt} {p pos : Pos} {x : Str}
theorem ev_call {k j : Nat} {R : List Dt → Dt → Prop} (c : CalD X.prog X.w X.K X.mg X.base C k x R) (hr : Room j X.A) (ha : EvA X C ρ M (e :: es) ds) (h : R ds d) (hk : k ≤ j := by first | assumption | decide) (hg : Gl X x := by rfl)
    (hdb : (x == ("__debug__" : Str)) = false := by decide) (he : starEach (e :: es) X.env = (false, eval e X.env) :: starEach es X.env := by rfl) (hpl : ((backTo pos (starEach es X.env)).any fun x => x.1) = false := by rfl) : Ev X C ρ M (.Call (.Name x p) (e :: es) [] pos) d := by
  obtain ⟨f, fd, ps, F, hm, kp, b⟩ := c.ex
  exact PE.imp (pe_call F (hr.mono hk) hg hm kp b .nil pass0 ha hdb he hpl) fun σ H Q ⟨F, I, q⟩ => ⟨F, I, fun vs F1 H1 e1 r1 => by
    show spD C R (vs ++ []) H1 Q E0
    rw [List.append_nil]
    exact ⟨F1, ds, d, e1.fh, r1, h, fun v F2 H2 e2 r2 => q v F2 H2 (e1.trans e2) r2⟩⟩
/-- a built-in upon data -/
def CD (C : Addr) (r : List V → Hp → VK → Prop) (ds : List Dt) (d : Dt) : Prop := ∀ (xs : List V) (F H : Hp) (Q : VK), Same F H → RpAll C F xs ds → (∀ v F' H', Ext F H F' H' → Rp C F' v d → Q v H') → r xs H Q
theorem ev_callB {r : List V → Hp → VK → Prop} {id : String} (hc : CallR X (.builtin id) r) (hr : CD C r ds d) (ha : EvA X C ρ M (e :: es) ds) (hm : X.mg x = none) (hg : Gl X x := by rfl) (hv : bootBuiltins x = some (.builtin id) := by decide +kernel)
    (hn : x ≠ "__name__" := by decide) (hd : (x == ("__debug__" : Str)) = false := by decide) (he : starEach (e :: es) X.env = (false, eval e X.env) :: starEach es X.env := by rfl) (hpl : ((backTo pos (starEach es X.env)).any fun x => x.1) = false := by rfl) :
    Ev X C ρ M (.Call (.Name x p) (e :: es) [] pos) d :=
  PE.imp (pe_callB hc hg hm hv ha (hn := hn) (hdb := hd) (he := he) (hpl := hpl)) fun σ H Q ⟨F, I, q⟩ => ⟨F, I, fun vs F1 H1 e1 r1 => hr vs F1 H1 Q e1.fh r1 fun v F2 H2 e2 r2 => q v F2 H2 (e1.trans e2) r2⟩
theorem ev_callTy {r : List V → Hp → VK → Prop} {T : String} (hc : CallR X (.type T) r) (hr : CD C r ds d) (ha : EvA X C ρ M (e :: es) ds) (hm : X.mg x = none) (hg : Gl X x := by rfl) (hv : bootBuiltins x = some (.type T) := by decide +kernel)
    (hn : x ≠ "__name__" := by decide) (hd : (x == ("__debug__" : Str)) = false := by decide) (he : starEach (e :: es) X.env = (false, eval e X.env) :: starEach es X.env := by rfl) (hpl : ((backTo pos (starEach es X.env)).any fun x => x.1) = false := by rfl) :
    Ev X C ρ M (.Call (.Name x p) (e :: es) [] pos) d :=
  PE.imp (pe_callTy hc hg hm hv ha (hn := hn) (hdb := hd) (he := he) (hpl := hpl)) fun σ H Q ⟨F, I, q⟩ => ⟨F, I, fun vs F1 H1 e1 r1 => hr vs F1 H1 Q e1.fh r1 fun v F2 H2 e2 r2 => q v F2 H2 (e1.trans e2) r2⟩
/-- .. that makes a new list -/
def CN (C : Addr) (r : List V → Hp → VK → Prop) (ds es : List Dt) : Prop := ∀ (xs : List V) (F H : Hp) (Q : VK), Same F H → RpAll C F xs ds → (∀ p ys F' H', H p = none → Ext F H F' H' → F' p = none → H' p = some (.lst ys) → RpAll C F' ys es → Q (.ref p) H') → r xs H Q
theorem en_callB {ds' : List Dt} {r : List V → Hp → VK → Prop} {id : String} (hc : CallR X (.builtin id) r) (hr : CN C r ds ds') (ha : EvA X C ρ M (e :: es) ds) (hm : X.mg x = none) (hg : Gl X x := by rfl) (hv : bootBuiltins x = some (.builtin id) := by decide +kernel)
    (hn : x ≠ "__name__" := by decide) (hd : (x == ("__debug__" : Str)) = false := by decide) (he : starEach (e :: es) X.env = (false, eval e X.env) :: starEach es X.env := by rfl) (hpl : ((backTo pos (starEach es X.env)).any fun x => x.1) = false := by rfl) :
    EvN X C ρ M (.Call (.Name x p) (e :: es) [] pos) ds' :=
  PE.imp (pe_callB hc hg hm hv ha (hn := hn) (hdb := hd) (he := he) (hpl := hpl)) fun σ H Q ⟨F, I, q⟩ => ⟨F, I, fun vs F1 H1 e1 r1 => hr vs F1 H1 Q e1.fh r1 fun p ys F2 H2 hp e2 f2 h2 r2 => q p ys F2 H2 (e1.free hp) (e1.trans e2) f2 h2 r2⟩
theorem en_callTy {ds' : List Dt} {r : List V → Hp → VK → Prop} {T : String} (hc : CallR X (.type T) r) (hr : CN C r ds ds') (ha : EvA X C ρ M (e :: es) ds) (hm : X.mg x = none) (hg : Gl X x := by rfl) (hv : bootBuiltins x = some (.type T) := by decide +kernel)
    (hn : x ≠ "__name__" := by decide) (hd : (x == ("__debug__" : Str)) = false := by decide) (he : starEach (e :: es) X.env = (false, eval e X.env) :: starEach es X.env := by rfl) (hpl : ((backTo pos (starEach es X.env)).any fun x => x.1) = false := by rfl) :
    EvN X C ρ M (.Call (.Name x p) (e :: es) [] pos) ds' :=
  PE.imp (pe_callTy hc hg hm hv ha (hn := hn) (hdb := hd) (he := he) (hpl := hpl)) fun σ H Q ⟨F, I, q⟩ => ⟨F, I, fun vs F1 H1 e1 r1 => hr vs F1 H1 Q e1.fh r1 fun p ys F2 H2 hp e2 f2 h2 r2 => q p ys F2 H2 (e1.free hp) (e1.trans e2) f2 h2 r2⟩
end
end BR
/-! BrH: comprehensions by data. -/
namespace BR
open PySem PySem.Spec PyProof.Rows L2

def wipeD (ρ : DE) : List Nat → DE
  | [] => ρ
  | v :: vs => (wipeD ρ vs).set v none
theorem En.slo {C : Addr} {F H : Hp} {ρ : DE} {M : Mem} {σ : L2.St} (I : En C F ρ M σ H) {i : Nat} : En C F (ρ.set i none) M (σ.set i none) H := ⟨I.fh, by rw [List.length_set, List.length_set]; exact I.len, fun j d hj => by
  by_cases hij : i = j
  · subst hij
    by_cases hl : i < ρ.length
    · rw [List.getElem?_set_self hl] at hj; cases hj
    · rw [List.getElem?_eq_none (by rw [List.length_set]; omega)] at hj; cases hj
  · rw [List.getElem?_set_ne hij] at hj ⊢
    exact I.sl j d hj, I.m⟩
theorem En.wipe {C : Addr} {F H : Hp} {ρ : DE} {M : Mem} {σ : L2.St} (I : En C F ρ M σ H) : ∀ {vs : List Nat}, En C F (wipeD ρ vs) M (L2.wipe σ vs) H
  | [] => I
  | v :: vs => (I.wipe (vs := vs)).slo
/-! ### the frame -/
theorem MOk.sub {C : Addr} {F H : Hp} {M N : Mem} (m : MOk C F H (M ++ N)) : MOk C F H M := ⟨fun i p d h => m.m i p d (by
  have hl : i < M.length := (List.getElem?_eq_some_iff.mp h).1
  rw [List.getElem?_append_left hl]
  exact h), by
  have := m.nd
  rw [List.map_append] at this
  exact (List.nodup_append.mp this).1⟩
theorem En.sub {C : Addr} {F H : Hp} {ρ : DE} {M N : Mem} {σ : L2.St} (I : En C F ρ (M ++ N) σ H) : En C F ρ M σ H := ⟨I.fh, I.len, I.sl, I.m.sub⟩
def EvTs (X : Cx) (C : Addr) (ρ : DE) (M : Mem) (es : List Expr) (b : Bool) : Prop := PTs X es (tRT C ρ M b)
section
variable {X : Cx} {C : Addr} {ρ : DE} {M : Mem} {e : Expr} {k : Bool}
theorem ets_nil : EvTs X C ρ M [] true := ⟨fun pins s σ H Q I ⟨F, In, q⟩ => pts_nil.run pins s σ H Q I (q F H (.refl In.fh))⟩
theorem ets_one (h : EvT X C ρ M e k) : EvTs X C ρ M [e] k := pts_one h
end

/-! ### what is gathered -/
theorem wo_same' {H : Hp} {D : Addr} : Same (wo H D) H := fun b o e => by
  have hb : b ≠ D := fun z => by rw [z, wo_same] at e; cases e
  rwa [wo_ne hb] at e
theorem ext_d0 {F H : Hp} {D : Addr} (e : Same F H) : Ext F (wo H D) F H := ⟨wo_same', .refl _, e, fun _ _ => rfl⟩
/-- D may have changed -/
theorem Ext.transD {F H F1 H1 F2 H2 : Hp} {D : Addr} (a : Ext F (wo H D) F1 H1) (b : Ext F1 (wo H1 D) F2 H2) : Ext F (wo H D) F2 H2 := by
  have hs : Same (wo H D) (wo H1 D) := fun c o e => by
    have hc : c ≠ D := fun z => by rw [z, wo_same] at e; cases e
    rw [wo_ne hc]
    exact a.h c o e
  exact ⟨hs.trans b.h, a.f.trans b.f, b.fh, fun c hc => by rw [b.old c (hc.same hs), a.old c hc]⟩
theorem ext_chgD {F H F1 H1 : Hp} {D : Addr} {o : HO} (a : Ext F (wo H D) F1 H1) (f : F1 D = none) : Ext F (wo H D) F1 (upd H1 D o) := ⟨fun c u e => by
  have hc : c ≠ D := fun z => by rw [z, wo_same] at e; cases e
  rw [upd_ne hc]
  exact a.h c u e, a.f, fun c u e => by
  have hc : c ≠ D := fun z => by rw [z, f] at e; cases e
  rw [upd_ne hc]
  exact a.fh c u e, a.old⟩
/-- an object that gathers data: its datum -/
structure Gth (w : World) where
  dt : Addr → List Dt → Dt
  ok : List Dt → Prop
  pre : ∀ a b, ok (a ++ b) → ok a
section
variable {w : World} (A : Gth w) {C : Addr} {ρ : DE} {M : Mem}
/-- D has l so far; es come to it -/
def tBX (C : Addr) (ρ : DE) (M : Mem) (es : List Dt) (D : Addr) : TB := fun σ H Nx => ∃ F l, En C F ρ (M ++ [(D, A.dt D l)]) σ H ∧ A.ok (l ++ es) ∧
  ∀ F' H', Ext F (wo H D) F' H' → MOk C F' H' (M ++ [(D, A.dt D (l ++ es))]) → Nx H'
theorem sl_old {F F' : Hp} {σ : L2.St} {H H' : Hp} {N N' : Mem} (I : En C F ρ N σ H) (e : Same F F') (fh : Same F' H') (m : MOk C F' H' N') : En C F' ρ N' σ H' := ⟨fh, I.len, fun i d hi => by
  obtain ⟨v, h1, h2⟩ := I.sl i d hi
  exact ⟨v, h1, h2.to e⟩, m⟩
theorem gather {α : Type} {xs : List α} {enc : α → Dt} {st : Stor} {sl vs : List Nat} {g : TG} {TT : DE → Bool → Prop} {BB : DE → List Dt → Prop} {J : It} {l : List Dt} {f : α → List Dt} {D : Addr} {σ : L2.St} {F0 H0 : Hp} {Qd : Hp → Prop} (hg : Sto C g st sl) (hsl : ∀ i ∈ sl, i ∈ vs) (wk : DW C J (xs.map enc) F0)
    (I0 : En C F0 ρ (M ++ [(D, A.dt D l)]) σ H0) (hok : A.ok (l ++ xs.flatMap f))
    (turn : ∀ d ∈ xs, ∃ ρ2 b, st (wipeD ρ vs) (enc d) = some ρ2 ∧ TT ρ2 b ∧ (b = true → BB ρ2 (f d)) ∧ (b = false → f d = []))
    (hend : ∀ F' H', Ext F0 (wo H0 D) F' H' → MOk C F' H' (M ++ [(D, A.dt D (l ++ xs.flatMap f))]) → Qd H') :
    ∃ W : Nat → Nat → Hp → Prop, (∃ m, W 0 m H0) ∧ ∀ j m H, W j m H → (J.stop j H ∧ Qd H) ∨ (J.go j H ∧ ∃ Nx1 : Hp → Prop, (∀ H', Nx1 H' → ∃ m', m' < m ∧ W (j + 1) m' H') ∧ ∀ x H', J.yld j H x H' → g x (L2.wipe σ vs) H' fun σ3 H5 => L2.wipe σ3 vs = L2.wipe σ vs ∧
      (∃ ρ2 b, TT ρ2 b ∧ tRT C ρ2 M b σ3 H5 fun b H6 => if b = true then (∃ ρ2 es, BB ρ2 es ∧ tBX A C ρ2 M es D σ3 H6 Nx1) else Nx1 H6)) := by
  let Mj : Nat → Mem := fun j => M ++ [(D, A.dt D (l ++ (xs.take j).flatMap f))]
  refine ⟨fun j m H => m = xs.length - j ∧ j ≤ xs.length ∧ ∃ F, Ext F0 (wo H0 D) F H ∧ MOk C F H (Mj j), ⟨_, rfl, Nat.zero_le _, F0, ?_⟩, ?_⟩
  · have e : Mj 0 = M ++ [(D, A.dt D l)] := by simp [Mj]
    rw [e]
    exact ⟨ext_d0 I0.fh, I0.m⟩
  rintro j m H ⟨rfl, hj, F, b, mo⟩
  have eF : Same F0 F := b.f
  have I1 : En C F ρ (Mj j) σ H := sl_old I0 eF b.fh mo
  by_cases hlt : j < xs.length
  · refine .inr ⟨wk.goes j H (by rw [List.length_map]; exact hlt) (eF.trans b.fh), fun H' => ∃ F', Ext F0 (wo H0 D) F' H' ∧ MOk C F' H' (Mj (j + 1)), fun H' ⟨F', h1, h2⟩ => ⟨xs.length - (j + 1), by omega, rfl, hlt, F', h1, h2⟩, fun x H' y => ?_⟩
    obtain ⟨d', hd', hF⟩ := wk.yields j H x H' (by rw [List.length_map]; exact hlt) (eF.trans b.fh) y
    rw [List.getElem?_map] at hd'
    obtain ⟨d, hd, rfl⟩ := Option.map_eq_some_iff.mp hd'
    obtain ⟨F2, e2, r2⟩ := hF F eF b.fh
    obtain ⟨ρ2, k, s2, t2, b2, n2⟩ := turn d (List.mem_of_getElem? hd)
    have I2 := (I1.ext e2).wipe (vs := vs)
    refine hg (wipeD ρ vs) ρ2 (Mj j) (enc d) x F2 H' _ _ s2 I2 r2 fun σ3 I3 but => ⟨by rw [but vs hsl, wipe_wipe], ρ2, k, t2, F2, I3.sub, fun F6 H6 e6 => ?_⟩
    have hsplit : xs.flatMap f = (xs.take j).flatMap f ++ (f d ++ (xs.drop (j + 1)).flatMap f) := by
      have e0 : xs = xs.take j ++ d :: xs.drop (j + 1) := by
        obtain ⟨h1, h2⟩ := List.getElem?_eq_some_iff.mp hd
        rw [← h2, List.getElem_cons_drop, List.take_append_drop]
      have := congrArg (fun z => List.flatMap f z) e0
      simpa using this
    have htk : (xs.take (j + 1)).flatMap f = (xs.take j).flatMap f ++ f d := by
      rw [List.take_add_one, hd, List.flatMap_append]
      simp
    have b6 := (b.trans e2).trans e6
    have m6 : MOk C F6 H6 (Mj j) := (mo.ext e2).ext e6
    cases k with
    | false =>
      dsimp only
      rw [if_neg Bool.false_ne_true]
      refine ⟨F6, ?_⟩
      have e : Mj (j + 1) = Mj j := by simp [Mj, htk, n2 rfl]
      rw [e]
      exact ⟨b6, m6⟩
    | true =>
      dsimp only
      rw [if_pos rfl]
      refine ⟨ρ2, f d, b2 rfl, F6, l ++ (xs.take j).flatMap f, I3.ext e6, ?_, fun F7 H7 b7 m7 => ⟨F7, ?_⟩⟩
      · refine A.pre _ ((xs.drop (j + 1)).flatMap f) ?_
        rw [hsplit] at hok
        simpa using hok
      · have e : Mj (j + 1) = M ++ [(D, A.dt D (l ++ (xs.take j).flatMap f ++ f d))] := by simp [Mj, htk]
        rw [e]
        exact ⟨b6.transD b7, m7⟩
  · have ej : j = xs.length := by omega
    subst ej
    have e : Mj xs.length = M ++ [(D, A.dt D (l ++ xs.flatMap f))] := by simp [Mj]
    rw [e] at mo
    have wst := wk.stops H (eF.trans b.fh)
    rw [List.length_map] at wst
    exact .inl ⟨wst, hend F H b mo⟩
end
theorem Lev.imp {Y : Cx} {T : Sem PySem.Fin → Sem PySem.Fin} {vs : List Nat} {tB tB' : TB} (h : Lev Y T vs tB) (k : ∀ σ H Nx, tB' σ H Nx → tB σ H Nx) : Lev Y T vs tB' :=
  ⟨fun pins s σ H Nx fin Qf E I hb hf => h.run pins s σ H Nx fin Qf E I (k σ H Nx hb) hf⟩

/-! ### the clauses behind the first, of a list -/
def gthL (w : World) : Gth w := ⟨fun _ l => .lst l, fun l => l.length ≤ 100000, fun a b h => by rw [List.length_append] at h; omega⟩
def asI : Dt → Int
  | .int i => i
  | _ => 0
def gthS (w : World) : Gth w := ⟨fun a l => .st w a (l.map asI), fun l => l.length ≤ 4000, fun a b h => by rw [List.length_append] at h; omega⟩
def CkL (Y : Cx) (C : Addr) (elt : Expr) (gens : List Comprehension) (scope : Scope) (pos : Pos) (k : Nat) (ρ : DE) (M : Mem) (vs : List Nat) (es : List Dt) : Prop :=
  ∀ D, Lev Y (deeper (.ListComp elt gens scope pos) gens (do let _ ← call (.builtin "list.append") [.ref D, ← eval elt Y.env]) k (.ref D) Y.env) vs (tBX (gthL Y.w) C ρ M es D)
def CkS (Y : Cx) (C : Addr) (elt : Expr) (gens : List Comprehension) (scope : Scope) (pos : Pos) (k : Nat) (ρ : DE) (M : Mem) (vs : List Nat) (es : List Dt) : Prop :=
  ∀ D, Lev Y (deeper (.SetComp elt gens scope pos) gens (do let v ← eval elt Y.env; standAt elt.pos; let _ ← call (.builtin "set.add") [.ref D, v]) k (.ref D) Y.env) vs (tBX (gthS Y.w) C ρ M es D)
section
variable {Y : Cx} {C : Addr} {ρ : DE} {M : Mem} {elt tg iter : Expr} {ifs : List Expr} {gens : List Comprehension} {scope : Scope} {pos : Pos} {k : Nat} {vs vs' : List Nat} {d : Dt} {es : List Dt} {st : Stor} {sl : List Nat} {α : Type} {xs : List α} {enc : α → Dt} {f : α → List Dt}
theorem ckl_elt (he : Ev Y C ρ M elt d) (hk : gens[k]? = none := by rfl) (hxe : Y.xe = fun _ _ => False := by rfl) : CkL Y C elt gens scope pos k ρ M [] [d] := fun D => (lev_elt_L hk hxe he).imp fun σ H Nx ⟨F, l, I, ok, fin⟩ => ⟨F, I.sub, fun v F1 H1 e1 r1 => by
  have I1 := I.ext e1
  have hD : (M ++ [(D, (gthL Y.w).dt D l)])[M.length]? = some (D, .lst l) := by simp [gthL]
  obtain ⟨f0, h, hh, acc, rfl, ra⟩ := I1.m.m _ D _ hD
  have hl : l.length < 100000 := by
    have : (l ++ [d]).length ≤ 100000 := ok
    rw [List.length_append, List.length_singleton] at this
    omega
  refine ⟨acc, hh, by rw [ra.length]; exact Nat.lt_of_lt_of_le hl (by decide), ?_⟩
  have e : (M ++ [(D, (gthL Y.w).dt D l)]).set M.length (D, .lst (l ++ [d])) = M ++ [(D, (gthL Y.w).dt D (l ++ [d]))] := by simp [gthL]
  have I2 : En C F1 ρ (M ++ [(D, (gthL Y.w).dt D (l ++ [d]))]) σ (upd H1 D (.lst (acc ++ [v]))) := e ▸ chg_ok I1 hD ⟨_, rfl, ra.snoc r1⟩
  exact fin F1 _ (ext_chgD ((ext_d0 I.fh).trans e1) f0) I2.m⟩
theorem cks_elt {i : Int} (he : Ev Y C ρ M elt (.int i)) (hk : gens[k]? = none := by rfl) (hxe : Y.xe = fun _ _ => False := by rfl) : CkS Y C elt gens scope pos k ρ M [] [.int i] := fun D => (lev_elt_S hk hxe he).imp fun σ H Nx ⟨F, l, I, ok, fin⟩ => ⟨F, I.sub, fun v F1 H1 e1 r1 => by
  have I1 := I.ext e1
  have hD : (M ++ [(D, (gthS Y.w).dt D l)])[M.length]? = some (D, .st Y.w D (l.map asI)) := by simp [gthS]
  obtain ⟨f0, h, hh, S, n, rfl, hS, hn⟩ := I1.m.m _ D _ hD
  have hl : l.length < 4000 := by
    have : (l ++ [Dt.int i]).length ≤ 4000 := ok
    rw [List.length_append, List.length_singleton] at this
    omega
  rw [List.length_map] at hn
  refine ⟨i, S, n, r1.inj_int, hh, Nat.lt_of_le_of_lt (by omega : n + 1 ≤ 4000) (by decide), ?_⟩
  have e : (M ++ [(D, (gthS Y.w).dt D l)]).set M.length (D, .st Y.w D ((l ++ [Dt.int i]).map asI)) = M ++ [(D, (gthS Y.w).dt D (l ++ [Dt.int i]))] := by simp [gthS]
  have I2 : En C F1 ρ (M ++ [(D, (gthS Y.w).dt D (l ++ [Dt.int i]))]) σ (upd H1 D (SetO Y.w D (fun j => S j || decide (j = i)) (if S i = true then n else n + 1))) := e ▸ chg_ok I1 hD ⟨_, _, rfl, fun k => by
    rw [Bool.or_eq_true, decide_eq_true_eq, hS]
    simp [asI], by
    rw [List.length_map, List.length_append, List.length_singleton]
    split <;> omega⟩
  exact fin F1 _ (ext_chgD ((ext_d0 I.fh).trans e1) f0) I2.m⟩
/-- one more clause -/
theorem ckl (hi : EvI Y C ρ M tg iter (xs.map enc)) (hg : EvG (Xq Y) C tg st sl) (turn : ∀ d ∈ xs, ∃ ρ2 b, st (wipeD ρ vs) (enc d) = some ρ2 ∧ EvTs Y C ρ2 M ifs b ∧ (b = true → CkL Y C elt gens scope pos (k + 1) ρ2 M vs' (f d)) ∧ (b = false → f d = []))
    (hk : gens[k]? = some ⟨tg, iter, ifs, 0⟩ := by rfl) (hsl : ∀ i ∈ sl, i ∈ vs := by decide) (hv : ∀ i ∈ vs', i ∈ vs := by decide) (hc : Y.calm = true := by rfl) (hxe : Y.xe = fun _ _ => False := by rfl) (hs : ∀ env x, foldedSetIterable iter env x = pure x := by intro _ _; rfl) : CkL Y C elt gens scope pos k ρ M vs (xs.flatMap f) := fun D => by
  obtain ⟨g, g1, g2⟩ := hg.ex
  have ht : PTs Y ifs (fun σ H Q => ∃ ρ2 b, EvTs Y C ρ2 M ifs b ∧ tRT C ρ2 M b σ H Q) := ⟨fun pins s σ H Q I ⟨ρ2, b, h, t⟩ => h.run pins s σ H Q I t⟩
  have L : Lev Y (deeper (.ListComp elt gens scope pos) gens (do let _ ← call (.builtin "list.append") [.ref D, ← eval elt Y.env]) (k + 1) (.ref D) Y.env) vs' (fun σ H Nx => ∃ ρ2 es, CkL Y C elt gens scope pos (k + 1) ρ2 M vs' es ∧ tBX (gthL Y.w) C ρ2 M es D σ H Nx) :=
    ⟨fun pins s σ H Nx fin Qf E I ⟨ρ2, es, h, t⟩ hf => (h D).run pins s σ H Nx fin Qf E I t hf⟩
  exact (lev_clause_L hk hc hxe hi (g1 Y rfl) ht hs hv L).imp fun σ H Nx ⟨F, l, I, ok, fin⟩ => ⟨F, I.sub, fun J F1 H1 e1 w => by
    exact gather (gthL Y.w) (TT := fun ρ2 b => EvTs Y C ρ2 M ifs b) (BB := fun ρ2 es => CkL Y C elt gens scope pos (k + 1) ρ2 M vs' es) g2 hsl w (I.ext e1) ok turn fun F' H' b' m' => fin F' H' (((ext_d0 I.fh).trans e1).transD b') m'⟩
theorem cks (hi : EvI Y C ρ M tg iter (xs.map enc)) (hg : EvG (Xq Y) C tg st sl) (turn : ∀ d ∈ xs, ∃ ρ2 b, st (wipeD ρ vs) (enc d) = some ρ2 ∧ EvTs Y C ρ2 M ifs b ∧ (b = true → CkS Y C elt gens scope pos (k + 1) ρ2 M vs' (f d)) ∧ (b = false → f d = []))
    (hk : gens[k]? = some ⟨tg, iter, ifs, 0⟩ := by rfl) (hsl : ∀ i ∈ sl, i ∈ vs := by decide) (hv : ∀ i ∈ vs', i ∈ vs := by decide) (hc : Y.calm = true := by rfl) (hxe : Y.xe = fun _ _ => False := by rfl) (hs : ∀ env x, foldedSetIterable iter env x = pure x := by intro _ _; rfl) : CkS Y C elt gens scope pos k ρ M vs (xs.flatMap f) := fun D => by
  obtain ⟨g, g1, g2⟩ := hg.ex
  have ht : PTs Y ifs (fun σ H Q => ∃ ρ2 b, EvTs Y C ρ2 M ifs b ∧ tRT C ρ2 M b σ H Q) := ⟨fun pins s σ H Q I ⟨ρ2, b, h, t⟩ => h.run pins s σ H Q I t⟩
  have L : Lev Y (deeper (.SetComp elt gens scope pos) gens (do let v ← eval elt Y.env; standAt elt.pos; let _ ← call (.builtin "set.add") [.ref D, v]) (k + 1) (.ref D) Y.env) vs' (fun σ H Nx => ∃ ρ2 es, CkS Y C elt gens scope pos (k + 1) ρ2 M vs' es ∧ tBX (gthS Y.w) C ρ2 M es D σ H Nx) :=
    ⟨fun pins s σ H Nx fin Qf E I ⟨ρ2, es, h, t⟩ hf => (h D).run pins s σ H Nx fin Qf E I t hf⟩
  exact (lev_clause_S hk hc hxe hi (g1 Y rfl) ht hs hv L).imp fun σ H Nx ⟨F, l, I, ok, fin⟩ => ⟨F, I.sub, fun J F1 H1 e1 w => by
    exact gather (gthS Y.w) (TT := fun ρ2 b => EvTs Y C ρ2 M ifs b) (BB := fun ρ2 es => CkS Y C elt gens scope pos (k + 1) ρ2 M vs' es) g2 hsl w (I.ext e1) ok turn fun F' H' b' m' => fin F' H' (((ext_d0 I.fh).trans e1).transD b') m'⟩
end
/-! ### whole comprehensions -/
section
variable {X : Cx} {C : Addr} {ρ : DE} {M : Mem} {elt tg iter : Expr} {ifs : List Expr} {rest : List Comprehension} {scope : Scope} {pos : Pos} {own : List (Str × Nat)} {vs' : List Nat} {st : Stor} {sl : List Nat} {α : Type} {xs : List α} {enc : α → Dt} {f : α → List Dt}
/-- in every block of that scope -/
abbrev InB (X : Cx) (scope : Scope) (P : Cx → Prop) : Prop := ∀ (s : Shared) (H : Hp) (E : Addr) (cl : List (Str × Addr)) (fp : List Addr), P (X.blk s H scope (compEnvC scope cl E X.env) fp)
/-- what stands behind a comprehension's end, as a new object in no slot -/
theorem push_new {F1 H1 : Hp} {σ : L2.St} {D : Addr} {o : HO} {d : Dt} (I : En C F1 ρ M σ H1) (hD : H1 D = none) (r : RepO C F1 o d) : En C F1 ρ (M ++ [(D, d)]) σ (upd H1 D o) := by
  have e : Ext F1 H1 F1 (upd H1 D o) := .newH I.fh hD
  have I1 := I.ext e
  refine ⟨I1.fh, I1.len, I1.sl, I1.m.push (I.fh.free hD) upd_same r fun j q u hj z => ?_⟩
  obtain ⟨_, h, hh, _⟩ := I.m.m j q u hj
  rw [z, hD] at hh
  cases hh
theorem wo_upd {H : Hp} {D : Addr} {o : HO} (h : H D = none) : wo (upd H D o) D = H := by
  funext b
  by_cases hb : b = D
  · rw [hb, wo_same, h]
  · rw [wo_ne hb, upd_ne hb]
/-- a comprehension that makes a list: as a value, as what a local name is set to -/
structure EvL (X : Cx) (C : Addr) (ρ : DE) (M : Mem) (e : Expr) (ds : List Dt) : Prop where
  n : EvN X C ρ M e ds
  s : ∀ (i : Nat) (y : Str) (py spos : Pos), X.N[i]? = some y → X.env.scope.names.lookup y = some .local → swapsWith e (some (.Name y py)) spos.line X.env = pure true → PS X (.Assign [.Name y py] e spos) (fun D σ H => tRN C ρ M ds σ H fun x H1 => D.nx (σ.set i (some x)) H1)
/-- a list -/
theorem el_lc (hi : EvI X C ρ M tg iter (xs.map enc)) (hg : EvG (Xb X scope) C tg st sl)
    (turn : ∀ d ∈ xs, ∃ ρ2 b, st (wipeD ρ (own.map (·.2))) (enc d) = some ρ2 ∧ InB X scope (fun Y => EvTs Y C ρ2 M ifs b) ∧ (b = true → InB X scope fun Y => CkL Y C elt (⟨tg, iter, ifs, 0⟩ :: rest) scope pos 1 ρ2 M vs' (f d)) ∧ (b = false → f d = []))
    (hz : (xs.flatMap f).length ≤ 100000) (hN : X.N.Nodup) (ok : BlkOk X.N X.env.scope scope own) (hsl : ∀ i ∈ sl, i ∈ own.map (·.2) := by decide) (hv : ∀ i ∈ vs', i ∈ own.map (·.2) := by decide) (hc : X.calm = true := by rfl) (hs : ∀ x, foldedSetIterable iter X.env x = pure x := by intro _; rfl) :
    EvL X C ρ M (.ListComp elt (⟨tg, iter, ifs, 0⟩ :: rest) scope pos) (xs.flatMap f) := by
  obtain ⟨g, g1, g2⟩ := hg.ex
  have ht : InB X scope fun Y => PTs Y ifs (fun σ H Q => ∃ ρ2 b, InB X scope (fun Y => EvTs Y C ρ2 M ifs b) ∧ tRT C ρ2 M b σ H Q) := fun s H E cl fp => ⟨fun pins s' σ H' Q I ⟨ρ2, b, h, t⟩ => (h s H E cl fp).run pins s' σ H' Q I t⟩
  have hL : ∀ (s : Shared) (H : Hp) (E : Addr) (cl : List (Str × Addr)) (fp : List Addr) (D : Addr), Lev (X.blk s H scope (compEnvC scope cl E X.env) fp) (deeper (.ListComp elt (⟨tg, iter, ifs, 0⟩ :: rest) scope pos) (⟨tg, iter, ifs, 0⟩ :: rest) (do let _ ← call (.builtin "list.append") [.ref D, ← eval elt (compEnvC scope cl E X.env)]) 1 (.ref D) (compEnvC scope cl E X.env)) vs'
      (fun σ H Nx => ∃ ρ2 es, InB X scope (fun Y => CkL Y C elt (⟨tg, iter, ifs, 0⟩ :: rest) scope pos 1 ρ2 M vs' es) ∧ tBX (gthL X.w) C ρ2 M es D σ H Nx) :=
    fun s H E cl fp D => ⟨fun pins s' σ H' Nx fin Qf E' I ⟨ρ2, es, h, t⟩ hf => (h s H E cl fp D).run pins s' σ H' Nx fin Qf E' I t hf⟩
  have rd : ∀ (σ : L2.St) (H : Hp) (Q : VK), tRN C ρ M (xs.flatMap f) σ H Q → tComp (fun _ => .lst []) (tRI C ρ M (xs.map enc)) g (fun σ H Q => ∃ ρ2 b, InB X scope (fun Y => EvTs Y C ρ2 M ifs b) ∧ tRT C ρ2 M b σ H Q) (fun D σ H Nx => ∃ ρ2 es, InB X scope (fun Y => CkL Y C elt (⟨tg, iter, ifs, 0⟩ :: rest) scope pos 1 ρ2 M vs' es) ∧ tBX (gthL X.w) C ρ2 M es D σ H Nx) (own.map (·.2)) σ H Q := fun σ H Q ⟨F, I, q⟩ => by
    refine ⟨F, I, fun J F1 H1 e1 w D hD => ?_⟩
    have I1 := I.ext e1
    have r0 : RepO C F1 (HO.lst []) ((gthL X.w).dt D []) := ⟨[], rfl, .nil⟩
    refine gather (gthL X.w) (l := []) g2 hsl (w.mono (fun _ h => h) fun _ _ _ _ _ _ h => h) (push_new I1 hD r0) hz turn fun F' H' e' m' => ?_
    rw [wo_upd hD] at e'
    have hDm : (M ++ [(D, (gthL X.w).dt D ([] ++ xs.flatMap f))])[M.length]? = some (D, .lst (xs.flatMap f)) := by simp [gthL]
    obtain ⟨f0, h, hh, acc, rfl, ra⟩ := m'.m _ D _ hDm
    exact q D acc F' H' (e1.free hD) (e1.trans e') f0 hh ra
  refine ⟨PE.imp (pe_cL (vs' := vs') hc hN hi ok hv (fun s H E cl fp => g1 _ ⟨s, H, E, cl, fp, rfl⟩) ht hL hs) rd, fun i y py spos hy hyl hsw => ?_⟩
  exact PS.imp (ps_setL (vs' := vs') hc hN hy hyl hsw hi ok hv (fun s H E cl fp => g1 _ ⟨s, H, E, cl, fp, rfl⟩) ht hL hs) fun D σ H h => rd σ H _ h
theorem en_lc (hi : EvI X C ρ M tg iter (xs.map enc)) (hg : EvG (Xb X scope) C tg st sl)
    (turn : ∀ d ∈ xs, ∃ ρ2 b, st (wipeD ρ (own.map (·.2))) (enc d) = some ρ2 ∧ InB X scope (fun Y => EvTs Y C ρ2 M ifs b) ∧ (b = true → InB X scope fun Y => CkL Y C elt (⟨tg, iter, ifs, 0⟩ :: rest) scope pos 1 ρ2 M vs' (f d)) ∧ (b = false → f d = []))
    (hz : (xs.flatMap f).length ≤ 100000) (hN : X.N.Nodup) (ok : BlkOk X.N X.env.scope scope own) (hsl : ∀ i ∈ sl, i ∈ own.map (·.2) := by decide) (hv : ∀ i ∈ vs', i ∈ own.map (·.2) := by decide) (hc : X.calm = true := by rfl) (hs : ∀ x, foldedSetIterable iter X.env x = pure x := by intro _; rfl) :
    EvN X C ρ M (.ListComp elt (⟨tg, iter, ifs, 0⟩ :: rest) scope pos) (xs.flatMap f) := (el_lc hi hg turn hz hN ok hsl hv hc hs).n
/-- sorted({..}), ints among fewer than 64 -/
theorem en_sc (B : List Int) {p2 p3 : Pos} (hi : EvI X C ρ M tg iter (xs.map enc)) (hg : EvG (Xb X scope) C tg st sl)
    (turn : ∀ d ∈ xs, ∃ ρ2 b, st (wipeD ρ (own.map (·.2))) (enc d) = some ρ2 ∧ InB X scope (fun Y => EvTs Y C ρ2 M ifs b) ∧ (b = true → InB X scope fun Y => CkS Y C elt (⟨tg, iter, ifs, 0⟩ :: rest) scope pos 1 ρ2 M vs' (f d)) ∧ (b = false → f d = []))
    (hz : (xs.flatMap f).length ≤ 4000) (hB : B.length < 64) (hks : ∀ k ∈ (xs.flatMap f).map asI, k ∈ B) (hm0 : X.mg "sorted" = none) (hN : X.N.Nodup) (ok : BlkOk X.N X.env.scope scope own) (hg0 : Gl X "sorted" := by rfl) (hsl : ∀ i ∈ sl, i ∈ own.map (·.2) := by decide) (hv : ∀ i ∈ vs', i ∈ own.map (·.2) := by decide)
    (hc : X.calm = true := by rfl) (hs : ∀ x, foldedSetIterable iter X.env x = pure x := by intro _; rfl) :
    EvN X C ρ M (.Call (.Name "sorted" p2) [.SetComp elt (⟨tg, iter, ifs, 0⟩ :: rest) scope pos] [] p3) ((sortU ((xs.flatMap f).map asI)).map Dt.int) := by
  obtain ⟨g, g1, g2⟩ := hg.ex
  have ht : InB X scope fun Y => PTs Y ifs (fun σ H Q => ∃ ρ2 b, InB X scope (fun Y => EvTs Y C ρ2 M ifs b) ∧ tRT C ρ2 M b σ H Q) := fun s H E cl fp => ⟨fun pins s' σ H' Q I ⟨ρ2, b, h, t⟩ => (h s H E cl fp).run pins s' σ H' Q I t⟩
  refine PE.imp (pe_callB (cr_sortedB hc) hg0 hm0 (by decide +kernel) (pa_cons (pe_cS (vs' := vs') (tB := fun D σ H Nx => ∃ ρ2 es, InB X scope (fun Y => CkS Y C elt (⟨tg, iter, ifs, 0⟩ :: rest) scope pos 1 ρ2 M vs' es) ∧ tBX (gthS X.w) C ρ2 M es D σ H Nx) hc hN hi ok hv (fun s H E cl fp => g1 _ ⟨s, H, E, cl, fp, rfl⟩) ht
    (fun s H E cl fp D => ⟨fun pins s' σ H' Nx fin Qf E' I ⟨ρ2, es, h, t⟩ hf => (h s H E cl fp D).run pins s' σ H' Nx fin Qf E' I t hf⟩) hs) pa_nil)) fun σ H Q ⟨F, I, q⟩ => ?_
  refine ⟨F, I, fun J F1 H1 e1 w D hD => ?_⟩
  have I1 := I.ext e1
  have r0 : RepO C F1 (SetO X.w D (fun _ => false) 0) ((gthS X.w).dt D []) := ⟨_, 0, rfl, fun k => by simp, Nat.le_refl _⟩
  refine gather (gthS X.w) (l := []) g2 hsl (w.mono (fun _ h => h) fun _ _ _ _ _ _ h => h) (push_new I1 hD r0) hz turn fun F' H' e' m' => ?_
  rw [wo_upd hD] at e'
  have hDm : (M ++ [(D, (gthS X.w).dt D ([] ++ xs.flatMap f))])[M.length]? = some (D, .st X.w D ((xs.flatMap f).map asI)) := by simp [gthS]
  obtain ⟨f0, h, hh, S, n, rfl, hS, hn⟩ := m'.m _ D _ hDm
  refine ⟨D, S, n, B, rfl, hh, hB, fun k hk => hks k ((hS k).mp hk), fun ns a hp hmem ha => ?_⟩
  have hns : ns = sortU ((xs.flatMap f).map asI) := rising_eq hp sortU_pw fun k => by rw [hmem, hS, mem_sortU]
  subst hns
  exact q a _ F' _ ((e1.trans e').free ha) ((e1.trans e').trans (.newH e'.fh ha)) (e'.fh.free ha) upd_same (rp_ints _)
end
end BR
/-! BrI: comprehensions of one clause, built-ins, zip of neighbours, by data. -/
namespace BR
open PySem PySem.Spec PyProof.Rows L2
theorem flatMap_one {α β : Type} (f : α → β) : ∀ xs : List α, (xs.flatMap fun x => [f x]) = xs.map f
  | [] => rfl
  | x :: xs => by rw [List.flatMap_cons, flatMap_one f xs]; rfl
theorem flatMap_if {α β : Type} (p : α → Bool) (f : α → β) : ∀ xs : List α, (xs.flatMap fun x => if p x = true then [f x] else []) = (xs.filter p).map f
  | [] => rfl
  | x :: xs => by
    rw [List.flatMap_cons, flatMap_if p f xs, List.filter_cons]
    cases p x <;> simp
section
variable {X : Cx} {C : Addr} {ρ : DE} {M : Mem} {elt tg iter c : Expr} {scope : Scope} {pos : Pos} {own : List (Str × Nat)} {st : Stor} {sl : List Nat} {α : Type} {xs : List α} {enc : α → Dt} {f : α → Dt} {p : α → Bool}
/-- [elt for tg in iter] -/
theorem el_lc1 (hi : EvI X C ρ M tg iter (xs.map enc)) (hg : EvG (Xb X scope) C tg st sl) (turn : ∀ x ∈ xs, ∃ ρ2, st (wipeD ρ (own.map (·.2))) (enc x) = some ρ2 ∧ InB X scope fun Y => Ev Y C ρ2 M elt (f x))
    (hz : xs.length ≤ 100000) (hN : X.N.Nodup) (ok : BlkOk X.N X.env.scope scope own) (hsl : ∀ i ∈ sl, i ∈ own.map (·.2) := by decide) (hc : X.calm = true := by rfl) (hs : ∀ x, foldedSetIterable iter X.env x = pure x := by intro _; rfl) :
    EvL X C ρ M (.ListComp elt [⟨tg, iter, [], 0⟩] scope pos) (xs.map f) := by
  have := el_lc (elt := elt) (pos := pos) (rest := []) (vs' := []) (f := fun x => [f x]) hi hg (fun x hx => by
    obtain ⟨ρ2, h1, h2⟩ := turn x hx
    exact ⟨ρ2, true, h1, fun s H E cl fp => ets_nil, fun _ s H E cl fp => ckl_elt (h2 s H E cl fp) rfl rfl, fun z => by cases z⟩) (by rw [flatMap_one, List.length_map]; exact hz) hN ok hsl (fun i hi => absurd hi (by simp)) hc hs
  rw [flatMap_one] at this
  exact this
/-- [elt for tg in iter if c] -/
theorem el_lc1f (hi : EvI X C ρ M tg iter (xs.map enc)) (hg : EvG (Xb X scope) C tg st sl) (turn : ∀ x ∈ xs, ∃ ρ2, st (wipeD ρ (own.map (·.2))) (enc x) = some ρ2 ∧ (InB X scope fun Y => EvT Y C ρ2 M c (p x)) ∧ (p x = true → InB X scope fun Y => Ev Y C ρ2 M elt (f x)))
    (hz : xs.length ≤ 100000) (hN : X.N.Nodup) (ok : BlkOk X.N X.env.scope scope own) (hsl : ∀ i ∈ sl, i ∈ own.map (·.2) := by decide) (hc : X.calm = true := by rfl) (hs : ∀ x, foldedSetIterable iter X.env x = pure x := by intro _; rfl) :
    EvL X C ρ M (.ListComp elt [⟨tg, iter, [c], 0⟩] scope pos) ((xs.filter p).map f) := by
  have := el_lc (elt := elt) (pos := pos) (rest := []) (vs' := []) (ifs := [c]) (f := fun x => if p x = true then [f x] else []) hi hg (fun x hx => by
    obtain ⟨ρ2, h1, h2, h3⟩ := turn x hx
    exact ⟨ρ2, p x, h1, fun s H E cl fp => ets_one (h2 s H E cl fp), fun z s H E cl fp => (by rw [if_pos z]; exact ckl_elt (h3 z s H E cl fp) rfl rfl), fun z => by rw [z, if_neg Bool.false_ne_true]⟩) (by rw [flatMap_if, List.length_map]; exact Nat.le_trans (List.length_filter_le _ _) hz) hN ok hsl (fun i hi => absurd hi (by simp)) hc hs
  rw [flatMap_if] at this
  exact this
theorem en_lc1 (hi : EvI X C ρ M tg iter (xs.map enc)) (hg : EvG (Xb X scope) C tg st sl) (turn : ∀ x ∈ xs, ∃ ρ2, st (wipeD ρ (own.map (·.2))) (enc x) = some ρ2 ∧ InB X scope fun Y => Ev Y C ρ2 M elt (f x))
    (hz : xs.length ≤ 100000) (hN : X.N.Nodup) (ok : BlkOk X.N X.env.scope scope own) (hsl : ∀ i ∈ sl, i ∈ own.map (·.2) := by decide) (hc : X.calm = true := by rfl) (hs : ∀ x, foldedSetIterable iter X.env x = pure x := by intro _; rfl) :
    EvN X C ρ M (.ListComp elt [⟨tg, iter, [], 0⟩] scope pos) (xs.map f) := (el_lc1 hi hg turn hz hN ok hsl hc hs).n
theorem en_lc1f (hi : EvI X C ρ M tg iter (xs.map enc)) (hg : EvG (Xb X scope) C tg st sl) (turn : ∀ x ∈ xs, ∃ ρ2, st (wipeD ρ (own.map (·.2))) (enc x) = some ρ2 ∧ (InB X scope fun Y => EvT Y C ρ2 M c (p x)) ∧ (p x = true → InB X scope fun Y => Ev Y C ρ2 M elt (f x)))
    (hz : xs.length ≤ 100000) (hN : X.N.Nodup) (ok : BlkOk X.N X.env.scope scope own) (hsl : ∀ i ∈ sl, i ∈ own.map (·.2) := by decide) (hc : X.calm = true := by rfl) (hs : ∀ x, foldedSetIterable iter X.env x = pure x := by intro _; rfl) :
    EvN X C ρ M (.ListComp elt [⟨tg, iter, [c], 0⟩] scope pos) ((xs.filter p).map f) := (el_lc1f hi hg turn hz hN ok hsl hc hs).n
end
section
variable {X : Cx} {C : Addr} {ρ : DE} {M : Mem} {P : Po} {elt : Expr} {gs : List Comprehension} {scope : Scope} {ds : List Dt} {pos py spos : Pos}
/-- name = [..] -/
theorem sd_setC (i : Nat) {y : Str} (h : EvL X C ρ M (.ListComp elt gs scope pos) ds) (hp : P.nx (ρ.set i (some (.lst ds))) M) (hN : X.N[i]? = some y := by rfl) (hl : X.env.scope.names.lookup y = some .local := by rfl) (hk : X.env.scope.kind = .function := by rfl) (hline : (py.line == pos.line) = true := by rfl) (ha : (scope.names.any fun (n, k) => n == y && (k == .local || k == .cell)) = false := by rfl) : SD X C (.Assign [.Name y py] (.ListComp elt gs scope pos) spos) ρ M P :=
  PS.imp (h.s i y py spos hN hl (sw_true hk hl hline ha)) fun D σ H ⟨Fb, Hb, F, b, I, q⟩ => ⟨F, I, fun p xs F1 H1 hp' e1 hf hx r => by
    have e2 := e1.join hx hp' hf
    have rl : Rp C (upd F1 p (.lst xs)) (.ref p) (.lst ds) := .lst upd_same (r.to (same_new hf))
    exact q.nx _ M _ _ H1 hp (b.ext e2) ((I.ext e2).set rl)⟩
end
/-! ### built-ins -/
section
variable {K : PySem.W.Frag} {C : Addr} {α : Type} {xs : List α} {es : List Dt}
theorem map_bl {p : α → Bool} : (xs.map fun x => Dt.bl (p x)) = (xs.map p).map Dt.bl := by rw [List.map_map]; rfl
theorem map_int {p : α → Int} : (xs.map fun x => Dt.int (p x)) = (xs.map p).map Dt.int := by rw [List.map_map]; rfl
theorem cd_any {p : α → Bool} : CD C (rAny K) [.lst (xs.map fun x => .bl (p x))] (.bl (xs.any p)) := fun vs F H Q e r q => by
  obtain ⟨v, rfl, r1⟩ := r.one
  obtain ⟨a, ys, rfl, hs, ra⟩ := r1.inj_lst
  rw [map_bl] at ra
  rw [ra.bls] at hs
  refine ⟨a, xs.map p, rfl, .of (e _ _ hs), ?_⟩
  rw [List.any_map]
  exact q _ F H (.refl e) (.bl _)
theorem cd_all {p : α → Bool} : CD C (rAll K) [.lst (xs.map fun x => .bl (p x))] (.bl (xs.all p)) := fun vs F H Q e r q => by
  obtain ⟨v, rfl, r1⟩ := r.one
  obtain ⟨a, ys, rfl, hs, ra⟩ := r1.inj_lst
  rw [map_bl] at ra
  rw [ra.bls] at hs
  refine ⟨a, xs.map p, rfl, .of (e _ _ hs), ?_⟩
  rw [List.all_map]
  exact q _ F H (.refl e) (.bl _)
theorem cd_min {p : α → Int} (h0 : xs ≠ []) : CD C (rMin K) [.lst (xs.map fun x => .int (p x))] (.int (minL (xs.map p))) := fun vs F H Q e r q => by
  obtain ⟨v, rfl, r1⟩ := r.one
  obtain ⟨a, ys, rfl, hs, ra⟩ := r1.inj_lst
  rw [map_int] at ra
  rw [ra.ints] at hs
  have h1 : xs.map p ≠ [] := by simpa using h0
  refine ⟨a, xs.map p, rfl, .of (e _ _ hs), List.length_pos_iff.mpr h1, fun m hm hle => ?_⟩
  have e' : m = minL (xs.map p) := Int.le_antisymm (hle _ (minL_mem h1)) (minL_le hm)
  rw [e']
  exact q _ F H (.refl e) (.int _)
theorem cd_max {p : α → Int} (h0 : xs ≠ []) : CD C (rMax K) [.lst (xs.map fun x => .int (p x))] (.int (maxL (xs.map p))) := fun vs F H Q e r q => by
  obtain ⟨v, rfl, r1⟩ := r.one
  obtain ⟨a, ys, rfl, hs, ra⟩ := r1.inj_lst
  rw [map_int] at ra
  rw [ra.ints] at hs
  have h1 : xs.map p ≠ [] := by simpa using h0
  refine ⟨a, xs.map p, rfl, .of (e _ _ hs), List.length_pos_iff.mpr h1, fun m hm hle => ?_⟩
  have e' : m = maxL (xs.map p) := Int.le_antisymm (maxL_le hm) (hle _ (maxL_mem h1))
  rw [e']
  exact q _ F H (.refl e) (.int _)
theorem cd_max2 {i j : Int} : CD C (fun xs H Q => ∃ i j, xs = [.int i, .int j] ∧ Q (.int (if j > i then j else i)) H) [.int i, .int j] (.int (if j > i then j else i)) := fun xs F H Q e r q => by
  obtain ⟨v, u, rfl, r1, r2⟩ := r.two
  rw [r1.inj_int, r2.inj_int]
  exact ⟨i, j, rfl, q _ F H (.refl e) (.int _)⟩
theorem cd_min2 {i j : Int} : CD C (fun xs H Q => ∃ i j, xs = [.int i, .int j] ∧ Q (.int (if j < i then j else i)) H) [.int i, .int j] (.int (if j < i then j else i)) := fun xs F H Q e r q => by
  obtain ⟨v, u, rfl, r1, r2⟩ := r.two
  rw [r1.inj_int, r2.inj_int]
  exact ⟨i, j, rfl, q _ F H (.refl e) (.int _)⟩
theorem cd_abs {i : Int} : CD C (fun xs H Q => ∃ i, xs = [.int i] ∧ Q (.int (if i < 0 then -i else i)) H) [.int i] (.int (if i < 0 then -i else i)) := fun xs F H Q e r q => by
  obtain ⟨v, rfl, r1⟩ := r.one
  rw [r1.inj_int]
  exact ⟨i, rfl, q _ F H (.refl e) (.int _)⟩
theorem cd_lenL : CD C (fun xs H Q => ∃ p ys, xs = [.ref p] ∧ (SqL K H p ys ∨ SqT K H p ys) ∧ Q (.int ys.length) H) [.lst es] (.int es.length) := fun xs F H Q e r q => by
  obtain ⟨v, rfl, r1⟩ := r.one
  obtain ⟨a, ys, rfl, hs, ra⟩ := r1.inj_lst
  refine ⟨a, ys, rfl, .inl (.of (e _ _ hs)), ?_⟩
  rw [ra.length]
  exact q _ F H (.refl e) (.int _)
theorem cd_lenT : CD C (fun xs H Q => ∃ p ys, xs = [.ref p] ∧ (SqL K H p ys ∨ SqT K H p ys) ∧ Q (.int ys.length) H) [.tup es] (.int es.length) := fun xs F H Q e r q => by
  obtain ⟨v, rfl, r1⟩ := r.one
  obtain ⟨a, ys, rfl, hs, ra⟩ := r1.inj_tup
  refine ⟨a, ys, rfl, .inr (.of (e _ _ hs)), ?_⟩
  rw [ra.length]
  exact q _ F H (.refl e) (.int _)
/-- tuple(xs) of a list -/
theorem cd_tupleL : CD C (fun xs H Q => ∃ p ys, xs = [.ref p] ∧ ((SqL K H p ys ∧ ∀ l, H l = none → Q (.ref l) (upd H l (.tup ys))) ∨ (SqT K H p ys ∧ Q (.ref p) H))) [.lst es] (.tup es) := fun xs F H Q e r q => by
  obtain ⟨v, rfl, r1⟩ := r.one
  obtain ⟨a, ys, rfl, hs, ra⟩ := r1.inj_lst
  exact ⟨a, ys, rfl, .inl ⟨.of (e _ _ hs), fun l hl => q _ _ _ (.new e hl) (.tup upd_same (ra.to (same_new (e.free hl))))⟩⟩
/-- list(xs) -/
theorem cn_listL : CN C (fun xs H Q => ∃ p ys, xs = [.ref p] ∧ (SqL K H p ys ∨ SqT K H p ys) ∧ ∀ l, H l = none → Q (.ref l) (upd H l (.lst ys))) [.lst es] es := fun xs F H Q e r q => by
  obtain ⟨v, rfl, r1⟩ := r.one
  obtain ⟨a, ys, rfl, hs, ra⟩ := r1.inj_lst
  exact ⟨a, ys, rfl, .inl (.of (e _ _ hs)), fun l hl => q l ys F _ hl (.newH e hl) (e.free hl) upd_same ra⟩
theorem cn_listT : CN C (fun xs H Q => ∃ p ys, xs = [.ref p] ∧ (SqL K H p ys ∨ SqT K H p ys) ∧ ∀ l, H l = none → Q (.ref l) (upd H l (.lst ys))) [.tup es] es := fun xs F H Q e r q => by
  obtain ⟨v, rfl, r1⟩ := r.one
  obtain ⟨a, ys, rfl, hs, ra⟩ := r1.inj_tup
  exact ⟨a, ys, rfl, .inr (.of (e _ _ hs)), fun l hl => q l ys F _ hl (.newH e hl) (e.free hl) upd_same ra⟩
/-- sets of ints -/
theorem cn_sortedPairs {ps : List Pr} : True := trivial
end
/-! ### zip(xs, xs[1:]) -/
theorem adj_len : ∀ ns : List Int, (adj ns).length = ns.length - 1
  | [] => rfl
  | [_] => rfl
  | x :: y :: r => by
    show (adj (y :: r)).length + 1 = _
    rw [adj_len (y :: r)]
    simp
theorem adj_get : ∀ (ns : List Int) (i : Nat) (x y : Int), ns[i]? = some x → ns[i + 1]? = some y → (adj ns)[i]? = some (x, y)
  | [], _, _, _, h, _ => by simp at h
  | [_], 0, _, _, _, h => by simp at h
  | [_], i + 1, _, _, h, _ => by simp at h
  | a :: b :: r, 0, x, y, h, h2 => by
    have e1 : a = x := Option.some.inj h
    have e2 : b = y := Option.some.inj h2
    rw [← e1, ← e2]
    rfl
  | a :: b :: r, i + 1, x, y, h, h2 => adj_get (b :: r) i x y h h2
def dPr (p : Int × Int) : Dt := .tup [.int p.1, .int p.2]
theorem cut1 (xs : List V) : cutV xs (some 1) none = xs.drop 1 := by
  unfold cutV
  rw [show HT.sIx xs.length 0 (some 1) = min 1 xs.length from HT.sIx_nat xs.length 0 1, HT.sIx_none]
  cases xs with
  | nil => rfl
  | cons x r =>
    rw [show min 1 (x :: r).length = 1 by
      rw [List.length_cons]
      omega]
    show (List.take ((x :: r).length - 1) r) = r
    rw [List.length_cons, Nat.add_sub_cancel]
    exact List.take_length
theorem dw_adj {C : Addr} {K : PySem.W.Frag} {F : Hp} {a b : Addr} {ns : List Int} (ha : F a = some (.lst (ns.map V.int))) (hb : F b = some (.lst ((ns.drop 1).map V.int))) : DW C (Itz K a b) ((adj ns).map dPr) F := by
  have w := walk_zip (K := K) (a := a) (b := b) (xs := ns.map V.int) (ys := (ns.drop 1).map V.int) (n := ns.length - 1) (by simp <;> omega)
  unfold DW
  rw [List.length_map, adj_len]
  refine w.mono (fun H e => ⟨.of (e _ _ ha), .of (e _ _ hb)⟩) fun i H x H' hi e ⟨T, x1, x2, hx, hT, hH, h1, h2⟩ => ?_
  subst hx
  subst hH
  have i1 : i < ns.length := by omega
  have i2 : i + 1 < ns.length := by omega
  have h1 : (ns.map V.int)[i]? = some x1 := h1
  have h2 : ((ns.drop 1).map V.int)[i]? = some x2 := h2
  rw [List.getElem?_map, List.getElem?_eq_getElem i1] at h1
  rw [List.getElem?_map, List.getElem?_drop, Nat.add_comm 1 i, List.getElem?_eq_getElem i2] at h2
  have e1 : V.int ns[i] = x1 := Option.some.inj h1
  have e2 : V.int ns[i + 1] = x2 := Option.some.inj h2
  subst e1 e2
  refine ⟨dPr (ns[i], ns[i + 1]), ?_, fun F1 s1 s2 => ⟨_, .new s2 hT, .tup upd_same (.cons (.int _) (.cons (.int _) .nil))⟩⟩
  rw [List.getElem?_map, adj_get ns i _ _ (List.getElem?_eq_getElem i1) (List.getElem?_eq_getElem i2)]
  rfl
section
variable {X : Cx} {C : Addr} {ρ : DE} {M : Mem}
theorem ei_adj (i : Nat) {ns : List Int} {x : Str} {p1 p2 p3 p4 p5 p6 : Pos} {k : Nat} {elts : List Expr} {kk : Nat} {tpos : Pos} (h : ρ[i]? = some (some (.lst (ns.map Dt.int)))) (hm : X.mg "zip" = none) (hg : Gl X "zip" := by rfl) (hN : X.N[i]? = some x := by rfl)
    (hv : Vis X.env.scope x := by first | exact Or.inl rfl | exact Or.inr (Or.inl rfl) | exact Or.inr (Or.inr rfl)) (hd : (x == ("__debug__" : Str)) = false := by decide) (hcd : (x == ("__classdict__" : Str)) = false := by decide) :
    EvI X C ρ M (.Tuple elts kk tpos) (.Call (.Name "zip" p1) [.Name x p2, .Subscript (.Name x p3) (.Slice (some (.Constant (.int 1) k p4)) none none p5) p6] [] pos) ((adj ns).map dPr) :=
  PI.imp (pi_zip hg hm (pa_cons (pe_var hN hv hd hcd) (pa_cons (pe_slice sl_list (pe_var hN hv hd hcd) (po_some pe_int) po_none) pa_nil))) fun σ H R ⟨F, I, q⟩ => by
    obtain ⟨v, hs, r⟩ := I.sl i _ h
    obtain ⟨a, xs, rfl, hl, ra⟩ := r.inj_lst
    have ev := ra.ints
    subst ev
    refine ⟨_, hs, _, hs, 1, rfl, a, _, rfl, .of (I.fh _ _ hl), fun c nc => ?_⟩
    have hc : upd H c (.lst (cutV (ns.map V.int) (some 1) none)) c = some (.lst ((ns.drop 1).map V.int)) := by rw [upd_same, cut1, List.map_drop]
    have hc' : upd F c (.lst (cutV (ns.map V.int) (some 1) none)) c = some (.lst ((ns.drop 1).map V.int)) := by rw [upd_same, cut1, List.map_drop]
    exact ⟨a, c, ns.map V.int, (ns.drop 1).map V.int, rfl, .of (same_new nc _ _ (I.fh _ _ hl)), .inl (.inl hc), q _ _ _ (.new I.fh nc) (dw_adj (same_new (I.fh.free nc) _ _ hl) hc')⟩
end
end BR
/-! BrJ: sorted pairs, stores into lists, more operators, all by data. -/
namespace BR
open PySem PySem.Spec PyProof.Rows L2
/-! ### sorted(ps) of pairs -/
def kF (F : Hp) : V → Int × Int
  | .ref t => match F t with
    | some (.tup [.int u, .int v]) => (u, v)
    | _ => (0, 0)
  | _ => (0, 0)
theorem kF_of {C : Addr} {F : Hp} {x : V} {p : Pr} (r : Rp C F x (dPr p)) : kF F x = p ∧ ∃ t, x = .ref t ∧ F t = some (.tup [.int p.1, .int p.2]) := by
  obtain ⟨a, xs, rfl, hs, ra⟩ := r.inj_tup
  obtain ⟨v, u, rfl, r1, r2⟩ := ra.two
  rw [r1.inj_int, r2.inj_int] at hs
  refine ⟨?_, a, rfl, hs⟩
  simp [kF, hs]
theorem RpAll.mem {C : Addr} {F : Hp} : ∀ {xs : List V} {ds : List Dt}, RpAll C F xs ds → ∀ x ∈ xs, ∃ d ∈ ds, Rp C F x d
  | [], [], _, x, hx => by cases hx
  | v :: vs, [], h, _, _ => by cases h
  | v :: vs, d :: ds, h, x, hx => by
    obtain ⟨_, _, e, r, h'⟩ := h.cons_inv
    cases e
    rcases List.mem_cons.mp hx with e | hx
    · rw [e]; exact ⟨d, List.mem_cons_self, r⟩
    · obtain ⟨d', h1, h2⟩ := h'.mem x hx
      exact ⟨d', List.mem_cons_of_mem _ h1, h2⟩
theorem rpAll_of {C : Addr} {F : Hp} {g : V → Dt} : ∀ {xs : List V}, (∀ x ∈ xs, Rp C F x (g x)) → RpAll C F xs (xs.map g)
  | [], _ => .nil
  | x :: xs, h => .cons (h x List.mem_cons_self) (rpAll_of fun y hy => h y (List.mem_cons_of_mem _ hy))
theorem rp_keys {C : Addr} {F : Hp} : ∀ {xs : List V} {ps : List Pr}, RpAll C F xs (ps.map dPr) → xs.map (kF F) = ps
  | [], [], _ => rfl
  | [], _ :: _, h => by cases h
  | _ :: _, [], h => by cases h
  | x :: xs, p :: ps, h => by
    obtain ⟨_, _, e, r, h'⟩ := h.cons_inv
    cases e
    rw [List.map_cons, (kF_of r).1, rp_keys h']
theorem cn_sortedP {K : PySem.W.Frag} {C : Addr} {ps : List Pr} : CN C (rSortedPO K) [.lst (ps.map dPr)] ((sortP ps).map dPr) := fun vs F H Q e r q => by
  obtain ⟨v, rfl, r1⟩ := r.one
  obtain ⟨a, xs, rfl, hs, ra⟩ := r1.inj_lst
  have hp : ∀ x ∈ xs, ∃ p : Pr, Rp C F x (dPr p) := fun x hx => by
    obtain ⟨d, hd, rd⟩ := ra.mem x hx
    obtain ⟨p, _, rfl⟩ := List.mem_map.mp hd
    exact ⟨p, rd⟩
  refine ⟨a, xs, kF F, rfl, .of (e _ _ hs), fun x hx => ?_, fun ys p h1 h2 hn => ?_⟩
  · obtain ⟨p, rp⟩ := hp x hx
    obtain ⟨k1, t, k2, k3⟩ := kF_of rp
    exact ⟨t, k2, by rw [k1]; exact e _ _ k3⟩
  · have hy : ∀ y ∈ ys, Rp C F y (dPr (kF F y)) := fun y hy => by
      obtain ⟨p, rp⟩ := hp y (h2.perm.mem_iff.mp hy)
      rw [(kF_of rp).1]
      exact rp
    have e1 : ys.map (kF F) = sortP ps := sortedP_eq ((h2.perm.map _).trans (by rw [rp_keys ra]; exact sortP_perm.symm)) (List.pairwise_map.mpr (List.Pairwise.imp (fun {x y} h => by
      have h := SrtO.lexB_no.mp h
      rw [leP_iff]
      omega) h1)) sortP_pw
    have := rpAll_of hy
    rw [show ys.map (fun y => dPr (kF F y)) = (ys.map (kF F)).map dPr by rw [List.map_map]; rfl, e1] at this
    exact q p ys F _ hn (.newH e hn) (e.free hn) upd_same this
/-! ### xs[k] = e -/
section
variable {X : Cx} {C : Addr} {ρ : DE} {M : Mem} {P : Po} {o ix e : Expr} {d : Dt} {ds : List Dt} {pos pos' : Pos}
theorem sd_setL (n : Nat) {p : Addr} {k : Int} {j : Nat} (ho : Ev X C ρ M o (.ref p)) (hi : Ev X C ρ M ix (.int k)) (he : Ev X C ρ M e d) (hM : M[n]? = some (p, .lst ds)) (hj : ixN ds.length k = some j) (h : P.nx ρ (M.set n (p, .lst (ds.set j d))))
    (hs : swapsWithSole [.Subscript o ix pos'] e pos.line X.env = pure false := by rfl) (hw : swappedStores [.Subscript o ix pos'] e X.env = pure none := by rfl) (h1 : (assignEach [.Subscript o ix pos'] X.env).map (·.2) = [assign (.Subscript o ix pos') X.env] := by rfl)
    (ha : ∀ v, assign (.Subscript o ix pos') X.env v = (do
      let ov ← holding [v] (eval o X.env)
      let iv ← holding [v, ov] (eval ix X.env)
      standAt pos'
      holding [v, ov, iv] (setItem ov iv v)
      release [v, ov, iv] []) := by intro _; rfl) : SD X C (.Assign [.Subscript o ix pos'] e pos) ρ M P :=
  PS.imp (ps_asg he (pg_sub ho hi set_list ha) hs hw h1) fun D σ H ⟨Fb, Hb, F, b, I, q⟩ => ⟨F, I, fun v F1 H1 e1 r1 => by
    have I1 := I.ext e1
    refine ⟨F1, I1, fun ov F2 H2 e2 r2 => ?_⟩
    have ev := r2.inj_ref
    subst ev
    have I2 := I1.ext e2
    refine ⟨F2, I2, fun iv F3 H3 e3 r3 => ?_⟩
    have ev := r3.inj_int
    subst ev
    have I3 := I2.ext e3
    obtain ⟨f1, h1, hh, xs, rfl, rx⟩ := I3.m.m n p _ hM
    refine ⟨p, xs, k, j, rfl, rfl, hh, by rw [rx.length]; exact hj, ?_⟩
    exact q.nx _ _ _ F3 _ h (chg_bs (C := C) (((b.ext e1).ext e2).ext e3) I3.m hM) (chg_ok I3 hM ⟨_, rfl, rx.set j ((r1.to e2.f).to e3.f)⟩)⟩
end
section
variable {X : Cx} {C : Addr} {ρ : DE} {M : Mem} {a b : Expr} {ds es : List Dt} {pos : Pos}
/-- a + b of tuples -/
theorem ev_catT (ha : Ev X C ρ M a (.tup ds)) (hb : Ev X C ρ M b (.tup es)) (hl : ds.length + es.length ≤ 1000) : Ev X C ρ M (.BinOp a .Add b pos) (.tup (ds ++ es)) :=
  ev_op op_catA (fun x y F H Q e r1 r2 q => by
    obtain ⟨p, xs, rfl, hp, ra⟩ := r1.inj_tup
    obtain ⟨p2, ys, rfl, hp2, ra2⟩ := r2.inj_tup
    refine ⟨p, p2, xs, ys, rfl, rfl, .of (e _ _ hp), .of (e _ _ hp2), by rw [ra.length, ra2.length]; exact Nat.le_trans hl (by decide), ?_⟩
    refine ⟨fun h1 => ?_, fun _ h2 => ?_, fun _ _ l hl => q _ _ _ (.new e hl) (.tup upd_same ((ra.append ra2).to (same_new (e.free hl))))⟩
    · subst h1
      have hd : ds = [] := List.length_eq_zero_iff.mp ra.length.symm
      subst hd
      exact q _ F H (.refl e) (.tup hp2 ra2)
    · subst h2
      have hd : es = [] := List.length_eq_zero_iff.mp ra2.length.symm
      subst hd
      rw [List.append_nil] at q
      exact q _ F H (.refl e) (.tup hp ra)) ha hb
/-- a + b of lists -/
theorem en_catL (ha : Ev X C ρ M a (.lst ds)) (hb : Ev X C ρ M b (.lst es)) (hl : ds.length + es.length ≤ 100000) : EvN X C ρ M (.BinOp a .Add b pos) (ds ++ es) :=
  PE.imp (pe_op op_cat ha hb) fun σ H Q ⟨F, I, q⟩ => ⟨F, I, fun x F1 H1 e1 r1 => ⟨F1, I.ext e1, fun y F2 H2 e2 r2 => by
    obtain ⟨p, xs, rfl, hp, ra⟩ := (r1.to e2.f).inj_lst
    obtain ⟨p2, ys, rfl, hp2, ra2⟩ := r2.inj_lst
    refine ⟨p, p2, xs, ys, rfl, rfl, e2.fh _ _ hp, e2.fh _ _ hp2, by rw [ra.length, ra2.length]; exact Nat.le_trans hl (by decide), fun l hl => ?_⟩
    exact q l _ F2 _ ((e1.trans e2).free hl) ((e1.trans e2).trans (.newH e2.fh hl)) (e2.fh.free hl) upd_same (ra.append ra2)⟩⟩
end
end BR
/-! BrK: equality of data that stand for plain things. -/
namespace BR
open PySem PySem.Spec PyProof.Rows L2
def dSpans (ss : List Pr) : Dt := .tup (ss.map dPr)
def dSlab (s : Slab) : Dt := .tup [.int s.1, .int s.2.1, dSpans s.2.2]
def dForm (f : Form) : Dt := .tup (f.map dSlab)
def dBox (b : Box) : Dt := .tup [.int b.1, .int b.2.1, .int b.2.2.1, .int b.2.2.2]
/-- data that == tells apart as their things are apart -/
structure Cpr {α : Type} (enc : α → Dt) (k : Nat) : Prop where
  n : ∀ x, noR (enc x) = true
  l : ∀ x, (toPy (enc x)).canLay0 = true
  d : ∀ x, (toPy (enc x)).depth ≤ k
  e : ∀ x y, PyData.eqv (toPy (enc x)) (toPy (enc y)) = true ↔ x = y
theorem cpr_int : Cpr Dt.int 0 := ⟨fun _ => by simp [noR], fun _ => by simp [toPy, PyData.canLay0], fun _ => by simp [toPy, PyData.depth], fun x y => by simp [toPy, PyData.eqv]⟩
section
variable {α : Type} {enc : α → Dt} {k : Nat}
theorem Cpr.ns (c : Cpr enc k) : ∀ xs : List α, noRs (xs.map enc) = true
  | [] => by simp [noRs]
  | x :: xs => by simp [noRs, c.n x, c.ns xs]
theorem Cpr.ls (c : Cpr enc k) : ∀ xs : List α, PyData.canLayAll0 (toPys (xs.map enc)) = true
  | [] => by simp [toPys, PyData.canLayAll0]
  | x :: xs => by simp [toPys, PyData.canLayAll0, c.l x, c.ls xs]
theorem Cpr.ds (c : Cpr enc k) : ∀ xs : List α, PyData.depthAll (toPys (xs.map enc)) ≤ k
  | [] => by simp [toPys, PyData.depthAll]
  | x :: xs => by
    have h1 := c.d x
    have h2 := c.ds xs
    simp only [List.map_cons, toPys, PyData.depthAll]
    omega
theorem Cpr.es (c : Cpr enc k) : ∀ xs ys : List α, PyData.eqvAll (toPys (xs.map enc)) (toPys (ys.map enc)) = true ↔ xs = ys
  | [], [] => by simp [toPys, PyData.eqvAll]
  | [], _ :: _ => by simp [toPys, PyData.eqvAll]
  | _ :: _, [] => by simp [toPys, PyData.eqvAll]
  | x :: xs, y :: ys => by
    simp only [List.map_cons, toPys, PyData.eqvAll, Bool.and_eq_true, c.e x y, c.es xs ys, List.cons.injEq]
theorem Cpr.tup (c : Cpr enc k) : Cpr (fun xs : List α => .tup (xs.map enc)) (k + 1) :=
  ⟨fun xs => by simpa [noR] using c.ns xs, fun xs => by simpa [toPy, PyData.canLay0] using c.ls xs, fun xs => by
    have := c.ds xs
    simp only [toPy, PyData.depth]
    omega, fun xs ys => by simpa [toPy, PyData.eqv] using c.es xs ys⟩
theorem Cpr.lst (c : Cpr enc k) : Cpr (fun xs : List α => .lst (xs.map enc)) (k + 1) :=
  ⟨fun xs => by simpa [noR] using c.ns xs, fun xs => by simpa [toPy, PyData.canLay0] using c.ls xs, fun xs => by
    have := c.ds xs
    simp only [toPy, PyData.depth]
    omega, fun xs ys => by simpa [toPy, PyData.eqv] using c.es xs ys⟩
end
theorem cpr_pr : Cpr dPr 1 := ⟨fun _ => by simp [dPr, noR, noRs], fun _ => by simp [dPr, toPy, toPys, PyData.canLay0, PyData.canLayAll0], fun _ => by simp [dPr, toPy, toPys, PyData.depth, PyData.depthAll], fun x y => by
  simp [dPr, toPy, toPys, PyData.eqv, PyData.eqvAll, Prod.ext_iff]⟩
theorem cpr_spans : Cpr dSpans 2 := cpr_pr.tup
theorem cpr_slab : Cpr dSlab 3 := ⟨fun x => by simp [dSlab, noR, noRs, cpr_spans.n], fun x => by simp [dSlab, toPy, toPys, PyData.canLay0, PyData.canLayAll0, cpr_spans.l], fun x => by
  have := cpr_spans.d x.2.2
  simp only [dSlab, toPy, toPys, PyData.depth, PyData.depthAll]
  omega, fun x y => by
  simp [dSlab, toPy, toPys, PyData.eqv, PyData.eqvAll, Prod.ext_iff, cpr_spans.e]⟩
theorem cpr_form : Cpr dForm 4 := cpr_slab.tup
theorem cpr_box : Cpr dBox 1 := ⟨fun _ => by simp [dBox, noR, noRs], fun _ => by simp [dBox, toPy, toPys, PyData.canLay0, PyData.canLayAll0], fun _ => by simp [dBox, toPy, toPys, PyData.depth, PyData.depthAll], fun x y => by
  simp [dBox, toPy, toPys, PyData.eqv, PyData.eqvAll, Prod.ext_iff]⟩
section
variable {X : Cx} {C : Addr} {ρ : DE} {M : Mem} {a b : Expr} {pos : Pos} {α : Type} [DecidableEq α] {enc : α → Dt} {x y : α} {n k : Nat}
theorem Cpr.sh (c : Cpr enc k) (hk : k ≤ 64) (x : α) : SeqAt.shaped (toPy (enc x)) = true := by
  unfold SeqAt.shaped
  rw [c.l x, decide_eq_true (Nat.le_trans (c.d x) hk)]
  rfl
theorem Cpr.dec (c : Cpr enc k) : PyData.eqv (toPy (enc x)) (toPy (enc y)) = decide (x = y) := by rw [Bool.eq_iff_iff, c.e x y, decide_eq_true_eq]
theorem ev_eqX (c : Cpr enc k) (hr : Room n X.A) (ha : Ev X C ρ M a (enc x)) (hb : Ev X C ρ M b (enc y)) (hk : k ≤ 64 := by decide) : Ev X C ρ M (.Compare a [.Eq] [b] pos) (.bl (decide (x = y))) := c.dec ▸ ev_eqD hr ha hb (c.n x) (c.n y) (c.sh hk x) (c.sh hk y)
theorem ev_neX (c : Cpr enc k) (hr : Room n X.A) (ha : Ev X C ρ M a (enc x)) (hb : Ev X C ρ M b (enc y)) (hk : k ≤ 64 := by decide) : Ev X C ρ M (.Compare a [.NotEq] [b] pos) (.bl (!decide (x = y))) := c.dec ▸ ev_neD hr ha hb (c.n x) (c.n y) (c.sh hk x) (c.sh hk y)
theorem et_eqX (c : Cpr enc k) (hr : Room n X.A) (ha : Ev X C ρ M a (enc x)) (hb : Ev X C ρ M b (enc y)) (hk : k ≤ 64 := by decide) : EvT X C ρ M (.Compare a [.Eq] [b] pos) (decide (x = y)) := c.dec ▸ et_eqD hr ha hb (c.n x) (c.n y) (c.sh hk x) (c.sh hk y)
theorem et_neX (c : Cpr enc k) (hr : Room n X.A) (ha : Ev X C ρ M a (enc x)) (hb : Ev X C ρ M b (enc y)) (hk : k ≤ 64 := by decide) : EvT X C ρ M (.Compare a [.NotEq] [b] pos) (!decide (x = y)) := c.dec ▸ et_neD hr ha hb (c.n x) (c.n y) (c.sh hk x) (c.sh hk y)
end
end BR
/-! BrP: the operators of an own class between its instances: a binary one, ~, in, !=. -/
namespace BR
open PySem PySem.Spec PyProof.Rows L2
section
variable {prog : Program} {w : World} {A : Around} {E : Value → Shared → Prop} {s : Shared} {K : PySem.W.Frag} {x y C L f : Addr} {h₀ : Heap} {m : Str → Option Value} {ox oy : Obj} {od od' : Option Obj}
theorem own_bin {op : Operator} {Q : Value → Shared → Prop} (F : Fr h₀ L s.heap m) (X₀ : K.In h₀) (I : PySem.W.InstAt s.heap x ox C od) (I' : PySem.W.InstAt s.heap y oy C od') (hc : PySem.W.selfFirst K C = true)
    (hs : PySem.W.findIn K (.ref C) (PySem.dunder op.info.2) = some (some (.ref f))) (hf : PySem.W.isFn K (.ref f) = true)
    (h : wpAny (model prog w) A (call (.ref f) [.ref x, .ref y]) (PySem.W.CmpBack Q) E s) : wpAny (model prog w) A (binaryOp op (.ref x) (.ref y)) Q E s := by
  have X := X₀.keeps F.keep
  obtain ⟨cd, rest, hcd, hm⟩ := PySem.W.ksp_first hc
  rcases hi : op.info with ⟨sym, nm'⟩
  rw [hi] at hs
  dsimp only at hs
  have one := PySem.W.ksp_try X I hs hf h
  obtain ⟨hh, g, d, tt, os⟩ := s
  have L1 : PySem.W.Looks (model prog w) hh (typeOf (.ref x)) (.ref C) := I.type
  have L2 : PySem.W.Looks (model prog w) hh (typeOf (.ref y)) (.ref C) := I'.type
  have L3 : PySem.W.Looks (model prog w) hh (fillsNumberSlot (.ref C) nm') true := PySem.W.fills_K X hcd hm hs
  simp only [binaryOp, hi]
  refine wpAny_holding (wpAny_bind ?_)
  unfold binaryOp1
  refine wpAny_bind (L1.at (wpAny_bind (L2.at (wpAny_bind (L3.at ?_)))))
  simp only [beq_self_eq_true, if_true]
  ksp_lk
  refine wpAny_mono one (fun r s' hr' => ?_) fun _ _ e => e
  obtain ⟨v, rfl, hq⟩ := hr'
  ksp_lk
  exact hq
/-- what ties a method that is a built-in of object -/
theorem obj_bound {args : List Value} {Q : Option Value → Shared → Prop} {name : Str} {id : String} (X : K.In s.heap) (I : PySem.W.InstAt s.heap x ox C od) (hn : PySem.W.findIn K (.ref C) name = some (some (.builtin id))) (bnd : ∀ self, bindSpecial (.builtin id) self = pure (.builtin id, [self]))
    (h : wpAny (model prog w) A (call (.builtin id) (.ref x :: args)) (fun v => Q (some v)) E s) : wpAny (model prog w) A (callSpecialIfBound? (.ref x) name args) Q E s := by
  simp only [callSpecialIfBound?, bindSpecialIfBound?]
  refine wpAny_holding (wpAny_bind (wpAny_bind (wpAny_bind (I.type.here ((PySem.W.looks_findIn X hn).here ?_)))))
  refine wpAny_bind (wpAny_askSetting (wpAny_ite ?_))
  have fin : wpAny (model prog w) A (call (.builtin id) ([.ref x] ++ args) >>= fun v => pure (some v)) Q E s := wpAny_bind (wpAny_mono h (fun v s' h' => wpAny_pure h') fun _ _ h' => h')
  rw [bnd]
  split
  · exact wpAny_bind (wpAny_pure (wpAny_pure (by exact fin)))
  · exact wpAny_tryCatch (wpAny_bind (wpAny_pure (wpAny_pure (by exact fin))))
theorem own_ne {Q : Value → Shared → Prop} (hu : A.units + 1 < cLine) (X : K.In s.heap) (I : PySem.W.InstAt s.heap x ox C od) (I' : PySem.W.InstAt s.heap y oy C od')
    (he : PySem.W.findIn K (.ref C) "__eq__" = some (some (.ref f))) (hf : PySem.W.isFn K (.ref f) = true) (hn : PySem.W.findIn K (.ref C) "__ne__" = some (some (.builtin "object.__ne__"))) (hso : PySem.W.subIn K (.ref C) (.type "object") = some true)
    (h : wpAny (model prog w) A.in1 (call (.ref f) [.ref x, .ref y]) (fun v s' => ∃ b, v = .bool b ∧ Q (.bool (!b)) s') E s) : wpAny (model prog w) A (richCompare .NotEq (.ref x) (.ref y)) Q E s := by
  have bnd : ∀ self, bindSpecial (.builtin "object.__ne__") self = pure (.builtin "object.__ne__", [self]) := by
    intro self
    first | rfl | kernel_rfl
  have hplain : plainId "object.__ne__" = true := by decide +kernel
  have body : wpAny (model prog w) A.in1 (Builtin.«object.__ne__» ⟨[.ref x, .ref y], []⟩) (fun fin s' => match fin with | .done (.ret v) => Q v s' ∧ ∃ b, v = .bool b | _ => False) E s := by
    unfold Builtin.«object.__ne__»
    have hu1 : A.in1.units < cLine := hu
    repeat (first
      | with_reducible refine wpAny_cRoomFor hu1 ?_
      | (refine wpAny_bind (m := callSpecialIfBound? (.ref x) (Str.ofString "__eq__") [.ref y])
          (PySem.W.ifBound_K X I he hf (wpAny_mono h (fun r s' hr => by
            obtain ⟨b, rfl, hq⟩ := hr
            repeat (first | exact ⟨hq, _, rfl⟩ | exact wpAny_pure ⟨hq, _, rfl⟩ | exact wpAny_truthy_bool ⟨hq, _, rfl⟩ | (refine wpAny_bind (m := truthy (.bool _)) (wpAny_truthy_bool ?_)) | wp_step)) fun _ _ e => e)))
      | wp_step)
  have chk : wpAny (model prog w) A.in1 (checkBuiltinCall "object.__ne__" ⟨[.ref x, .ref y], []⟩) (fun _ s' => s' = s) E s := by
    simp only [checkBuiltinCall, PySem.F.cmpKind_ne, PySem.F.cmpSplit_ne]
    refine wpAny_bind ?_
    unfold isInstance
    refine wpAny_bind (I.type.here ((PySem.W.looks_subIn X hso).here ?_))
    have ha := PySem.F.cmpArgs_ne (.ref x) (.ref y)
    first
      | (cases hsig : Manifest.signature? "object.__ne__" with
         | none => exact wpAny_pure rfl
         | some sig =>
           simp only [argsOk, hsig] at ha
           have h2 : Bind.checkArgs "object.__ne__" sig ⟨[.ref x, .ref y], []⟩ = pure () := ha
           show wpAny _ A.in1 (Bind.checkArgs "object.__ne__" sig ⟨[.ref x, .ref y], []⟩) _ E _
           rw [h2]
           exact wpAny_pure rfl)
  unfold richCompare
  simp only [oneThing_ref]
  refine wpAny_holding (wpAny_bind (wpAny_cRoomFor (Nat.lt_of_succ_lt hu) ?_))
  rw [cmpInfo_NotEq]
  dsimp only
  refine wpAny_bind (I.type.here (wpAny_bind (I'.type.here ?_)))
  rw [show (Value.ref C != Value.ref C) = false from by simp]
  simp only [Bool.false_eq_true, if_false]
  refine wpAny_bind (wpAny_pure ?_)
  simp only [Bool.false_eq_true, if_false]
  have one : wpAny (model prog w) A (tryCompare (.ref x) "__ne__" (.ref y)) (fun r s' => ∃ v, r = some v ∧ Q v s') E s := by
    unfold tryCompare
    refine wpAny_bind (obj_bound X I hn bnd (wpAny_call (codeAny_call_builtin hplain PySem.F.cmpEntry_ne (wpAny_mono chk (fun _ s' e => ?_) fun _ _ e => e))))
    subst e
    refine wpAny_mono body (fun fin s' hq => ?_) fun _ _ e => e
    cases fin with
    | again _ => exact hq.elim
    | done fl =>
      cases fl with
      | ret v =>
        obtain ⟨hq, b, rfl⟩ := hq
        exact wpAny_pure ⟨_, rfl, hq⟩
      | next => exact hq.elim
      | brk => exact hq.elim
      | cont => exact hq.elim
  refine wpAny_bind (wpAny_mono one (fun r s' z => ?_) fun _ _ e => e)
  obtain ⟨v, rfl, hq⟩ := z
  exact wpAny_pure hq
end
/-! ### as rules -/
section
variable {X : Cx} {C g : Addr} {n : Nat} {sp : Sp}
/-- two instances of the class at C -/
def rOwn2 (C : Addr) (sp : Sp) : R2 := fun x y H Q => ∃ a dx fs b dy gs, x = .ref a ∧ y = .ref b ∧ H a = some (.ins C dx fs) ∧ H b = some (.ins C dy gs) ∧ sp [x, y] H Q E0
theorem inst_of {pins : List (Addr × Obj)} {σ : L2.St} {H : Hp} {s : Shared} {a dx : Addr} {fs : List (Str × V)} (I : Inv X pins σ H s) (h : H a = some (.ins C dx fs)) : ∃ ox od, PySem.W.InstAt s.heap a ox C od := by
  obtain ⟨mA, O, _⟩ := ins_get I.hok h
  obtain ⟨od, J, _⟩ := O.look
  exact ⟨_, _, J⟩
theorem op_ownB {op : Operator} (hc : PySem.W.selfFirst X.K C = true) (hs : PySem.W.findIn X.K (.ref C) (PySem.dunder op.info.2) = some (some (.ref g))) (hf : PySem.W.isFn X.K (.ref g) = true) (F : FnR X.prog X.w X.K X.mg X.base CX0 n g sp) (hr : Room n X.A) : OpR X (binaryOp op) (rOwn2 C sp) := by
  intro pins s σ H x y v u Q I rx ry h
  obtain ⟨a, dx, fs, b, dy, gs, rfl, rfl, ha, hb, q⟩ := h
  cases (show v = Value.ref a from rx)
  cases (show u = Value.ref b from ry)
  obtain ⟨ox, od, J⟩ := inst_of I ha
  obtain ⟨oy, od', J'⟩ := inst_of I hb
  obtain ⟨m, hF⟩ := I.fr
  refine own_bin hF I.ok.mod.kin J J' hc hs hf ?_
  refine wpAny_mono (wpAny_call (run_fnR (us := [.ref a, .ref b]) (vs := [.ref a, .ref b]) F hr pass0 I (.cons rfl (.cons rfl .nil)) q)) (fun w s' z => ?_) fun _ _ x => x
  obtain ⟨z', H', I', rz, qz⟩ := z
  exact SlX.cmpback rz ⟨z', H', I', rz, qz⟩
/-- ~x -/
def rOwn1 (C : Addr) (sp : Sp) : V → Hp → VK → Prop := fun x H Q => ∃ a dx fs, x = .ref a ∧ H a = some (.ins C dx fs) ∧ sp [x] H Q E0
theorem un_ownI (hs : PySem.W.findIn X.K (.ref C) "__invert__" = some (some (.ref g))) (hf : PySem.W.isFn X.K (.ref g) = true) (F : FnR X.prog X.w X.K X.mg X.base CX0 n g sp) (hr : Room n X.A) : UnR X (unaryOp .Invert) (rOwn1 C sp) := by
  intro pins s σ H x v Q I rx h
  obtain ⟨a, dx, fs, rfl, ha, q⟩ := h
  cases (show v = Value.ref a from rx)
  obtain ⟨ox, od, J⟩ := inst_of I ha
  obtain ⟨m, hF⟩ := I.fr
  refine PySem.W.ksp_inv hF I.ok.mod.kin J hs hf ?_
  exact wpAny_call (run_fnR (us := [.ref a]) (vs := [.ref a]) F hr pass0 I (.cons rfl .nil) q)
/-- x in y, x not in y: y an instance, its def answers with a bool -/
def rOwnIn (C : Addr) (sp : Sp) (neg : Bool) : R2 := fun x y H Q => ∃ b dy gs, y = .ref b ∧ H b = some (.ins C dy gs) ∧ sp [y, x] H (fun z H' => ∃ k, z = .bl k ∧ Q (.bl (if neg then !k else k)) H') E0
theorem op_ownIn (hs : PySem.W.findIn X.K (.ref C) "__contains__" = some (some (.ref g))) (hf : PySem.W.isFn X.K (.ref g) = true) (F : FnR X.prog X.w X.K X.mg X.base CX0 n g sp) (hr : Room n X.A) : OpR X (compareOp .In) (rOwnIn C sp false) := by
  intro pins s σ H x y v u Q I rx ry h
  obtain ⟨b, dy, gs, rfl, hb, q⟩ := h
  cases (show u = Value.ref b from ry)
  obtain ⟨oy, od, J⟩ := inst_of I hb
  obtain ⟨m, hF⟩ := I.fr
  refine PySem.W.in_K hF I.ok.mod.kin J hs hf ?_
  refine wpAny_mono (wpAny_call (run_fnR (us := [.ref b, v]) (vs := [.ref b, x]) F hr pass0 I (.cons rfl (.cons rx .nil)) q)) (fun w s' z => ?_) fun _ _ x => x
  obtain ⟨z', H', I', rz, k, e, qz⟩ := z
  subst e
  cases rz
  exact wpAny_truthy_bool ⟨.bl k, H', I', rfl, qz⟩
theorem op_ownNotIn (hs : PySem.W.findIn X.K (.ref C) "__contains__" = some (some (.ref g))) (hf : PySem.W.isFn X.K (.ref g) = true) (F : FnR X.prog X.w X.K X.mg X.base CX0 n g sp) (hr : Room n X.A) : OpR X (compareOp .NotIn) (rOwnIn C sp true) := by
  intro pins s σ H x y v u Q I rx ry h
  obtain ⟨b, dy, gs, rfl, hb, q⟩ := h
  cases (show u = Value.ref b from ry)
  obtain ⟨oy, od, J⟩ := inst_of I hb
  obtain ⟨m, hF⟩ := I.fr
  refine PySem.W.notIn_K hF I.ok.mod.kin J hs hf ?_
  refine wpAny_mono (wpAny_call (run_fnR (us := [.ref b, v]) (vs := [.ref b, x]) F hr pass0 I (.cons rfl (.cons rx .nil)) q)) (fun w s' z => ?_) fun _ _ x => x
  obtain ⟨z', H', I', rz, k, e, qz⟩ := z
  subst e
  cases rz
  exact wpAny_truthy_bool ⟨.bl (!k), H', I', rfl, qz⟩
/-- x != y by the class's __eq__ -/
def rOwnNe (C : Addr) (sp : Sp) : R2 := fun x y H Q => ∃ a dx fs b dy gs, x = .ref a ∧ y = .ref b ∧ H a = some (.ins C dx fs) ∧ H b = some (.ins C dy gs) ∧ sp [x, y] H (fun z H' => ∃ k, z = .bl k ∧ Q (.bl (!k)) H') E0
theorem op_ownNe (he : PySem.W.findIn X.K (.ref C) "__eq__" = some (some (.ref g))) (hf : PySem.W.isFn X.K (.ref g) = true) (hn : PySem.W.findIn X.K (.ref C) "__ne__" = some (some (.builtin "object.__ne__"))) (hso : PySem.W.subIn X.K (.ref C) (.type "object") = some true)
    (F : FnR X.prog X.w X.K X.mg X.base CX0 n g sp) (hr : Room (n + 1) X.A) : OpR X (compareOp .NotEq) (rOwnNe C sp) := by
  intro pins s σ H x y v u Q I rx ry h
  obtain ⟨a, dx, fs, b, dy, gs, rfl, rfl, ha, hb, q⟩ := h
  cases (show v = Value.ref a from rx)
  cases (show u = Value.ref b from ry)
  obtain ⟨ox, od, J⟩ := inst_of I ha
  obtain ⟨oy, od', J'⟩ := inst_of I hb
  show wpAny _ _ (richCompare .NotEq (.ref a) (.ref b)) _ _ _
  refine own_ne (by have := hr.un; omega) I.kIn J J' he hf hn hso ?_
  refine wpAny_mono (wpAny_call (codeAny_mono (F X.A.in1 X.stack s H [.ref a, .ref b] [.ref a, .ref b] _ E0 hr.in1 I.env0.in1 (.cons rfl (.cons rfl .nil)) q) fun r s' hq => ?_)) (fun w s' z => z) fun _ _ x => x
  cases r with
  | error e => exact hq.elim
  | ok fl =>
    cases fl with
    | ret u =>
      obtain ⟨z', H', I', rz, k, e, qz⟩ := I.after hq
      subst e
      cases rz
      exact ⟨k, rfl, .bl (!k), H', I', rfl, qz⟩
    | next => exact hq.elim
    | brk => exact hq.elim
    | cont => exact hq.elim
end
end BR
/-! BrR: regions as objects: isinstance, fields, making, the operators of their own. -/
namespace BR
open PySem PySem.Spec PyProof.Rows L2
/-- what is asked of the class of regions, at C -/
structure RCls (K : PySem.W.Frag) (C : Addr) : Prop where
  cl : Cls K C
  nf : NoAttr K C "form"
  no : NoAttr K C "is_outside"
  ha : PySem.W.findIn K (.ref C) "__class__" = some (some (.builtin "object.__class__"))
  hn : PySem.W.specialIn K (.builtin "object.__class__") "__get__" = some (some (.builtin "getset_descriptor.__get__"))
  tk : PySem.W.takesIn K (.builtin "object.__class__") = some true
  mr : PySem.W.mroIn K C (.type "object") = some true
section
variable {X : Cx} {C : Addr} {ρ : DE} {M : Mem} {e : Expr} {es : List Expr} {d f : Dt} {o : Bool} {ds : List Dt} {pos : Pos}
theorem ev_ty {T : String} {x : Str} (hm : X.mg x = none) (hg : Gl X x := by rfl) (hv : bootBuiltins x = some (.type T) := by decide +kernel) (hn : x ≠ "__name__" := by decide) (hd : (x == ("__debug__" : Str)) = false := by decide) : Ev X C ρ M (.Name x pos) (.ty T) :=
  PE.imp (pe_bltn (v := .ty T) hg hm hv rfl hn hd) fun σ H Q ⟨F, I, q⟩ => q _ F H (.refl I.fh) (.ty T)
theorem ev_gref {a : Addr} {x : Str} (hm : X.mg x = some (.ref a)) (hg : Gl X x := by rfl) (hd : (x == ("__debug__" : Str)) = false := by decide) : Ev X C ρ M (.Name x pos) (.ref a) :=
  PE.imp (pe_glob (v := .ref a) hg hm rfl hd) fun σ H Q ⟨F, I, q⟩ => q _ F H (.refl I.fh) (.ref a)
/-! ### isinstance -/
variable {K : PySem.W.Frag}
theorem cd_isi {x : Dt} {t c : String} {b : Bool} (hx : ∀ (F : Hp) v, Rp C F v x → ∀ H, Same F H → TyX K H v (.type t)) (h : kitB t c = some b) : CD C (rIsi K) [x, .ty c] (.bl b) := fun xs F H Q e r q => by
  obtain ⟨v, u, rfl, r1, r2⟩ := r.two
  cases r2
  exact ⟨v, .ty c, .type t, .type c, b, rfl, .ty c, hx F v r1 H e, kit_ty h, q _ F H (.refl e) (.bl _)⟩
theorem ty_int {i : Int} (F : Hp) (v : V) (r : Rp C F v (.int i)) (H : Hp) (e : Same F H) : TyX K H v (.type "int") := by rw [r.inj_int]; exact .base (.int i)
theorem ty_bl {i : Bool} (F : Hp) (v : V) (r : Rp C F v (.bl i)) (H : Hp) (e : Same F H) : TyX K H v (.type "bool") := by rw [r.inj_bl]; exact .base (.bl i)
theorem ty_tup {l : List Dt} (F : Hp) (v : V) (r : Rp C F v (.tup l)) (H : Hp) (e : Same F H) : TyX K H v (.type "tuple") := by
  obtain ⟨a, xs, rfl, h, _⟩ := r.inj_tup
  exact .base (.tup (e _ _ h))
theorem cd_isiR (R : RCls K C) : CD C (rIsi K) [.reg f o, .ref C] (.bl true) := fun xs F H Q e r q => by
  obtain ⟨v, u, rfl, r1, r2⟩ := r.two
  rw [r2.inj_ref]
  obtain ⟨a, dx, z, rfl, h, _⟩ := r1.inj_reg
  refine ⟨.ref a, .ref C, .ref C, .ref C, true, rfl, .own C, .base (.ins (e _ _ h) R.cl R.ha R.hn R.tk R.mr), ?_, q _ F H (.refl e) (.bl _)⟩
  unfold PySem.W.kitOne
  rw [if_pos (beq_self_eq_true _)]
/-! ### fields -/
theorem ev_form (R : RCls X.K C) (h : Ev X C ρ M e (.reg f o)) (hb : attributeBase e "form" X.env (eval e X.env) = eval e X.env := by rfl) : Ev X C ρ M (.Attribute e "form" pos) f :=
  PE.imp (pe_fld h hb) fun σ H Q ⟨F, I, q⟩ => ⟨F, I, fun v F1 H1 e1 r1 => by
    obtain ⟨a, dx, z, rfl, h, hz⟩ := r1.inj_reg
    exact ⟨a, C, dx, _, z, rfl, e1.fh _ _ h, R.cl, R.nf, rfl, q z F1 H1 e1 hz⟩⟩
theorem ev_out (R : RCls X.K C) (h : Ev X C ρ M e (.reg f o)) (hb : attributeBase e "is_outside" X.env (eval e X.env) = eval e X.env := by rfl) : Ev X C ρ M (.Attribute e "is_outside" pos) (.bl o) :=
  PE.imp (pe_fld h hb) fun σ H Q ⟨F, I, q⟩ => ⟨F, I, fun v F1 H1 e1 r1 => by
    obtain ⟨a, dx, z, rfl, h, hz⟩ := r1.inj_reg
    exact ⟨a, C, dx, _, .bl o, rfl, e1.fh _ _ h, R.cl, R.no, rfl, q _ F1 H1 e1 (.bl o)⟩⟩
end
/-! ### making -/
/-- __init__ -/
def spInit (C : Addr) : Sp := fun vs H Q _ => ∃ x dx v o, vs = [.ref x, v, .bl o] ∧ H x = some (.ins C dx []) ∧ Q .non (upd H x (.ins C dx (rgF v o)))
section
variable {P : Program} {w : World} {K : PySem.W.Frag} {mg : Str → Option Value} {base : Heap} {C : Addr}
theorem ok_init {f : Addr} {fd : FuncData} {q : Str} (F : Fun K "__init__" q s_R_init f fd) (R : RCls K C) : FnOk P w K mg base CX0 1 f fd ["self", "form", "is_outside"] (spInit C) := by
  refine F.ok sc_R_init (fun vs H Q E ⟨x, dx, v, o, e, _⟩ => by rw [e]; rfl) fun cdv A outer s H vs Q E hr ⟨x, dx, v, o, e, hx, q⟩ => ?_
  subst e
  refine ⟨_, pss_cons (ps_fld (pv 0) (pv 1) rfl) (pss_one (ps_fld (pv 0) (pv 2) rfl)), ?_⟩
  refine ⟨v, rfl, .ref x, rfl, x, C, dx, [], rfl, hx, R.cl, R.nf, by decide, ?_⟩
  refine ⟨.bl o, rfl, .ref x, rfl, x, C, dx, _, rfl, upd_same, R.cl, R.no, Nat.lt_of_lt_of_le (by exact Nat.lt_of_lt_of_le (Nat.lt_succ_self _) (Nat.le_refl 2)) (by decide), ?_⟩
  rw [upd_upd]
  exact q
/-- a class that may be made -/
structure MkD (P : Program) (w : World) (K : PySem.W.Frag) (mg : Str → Option Value) (base : Heap) (C : Addr) : Prop where
  ex : ∃ (f : Addr) (fd : FuncData), Mk K C f ∧ FnOk P w K mg base CX0 1 f fd ["self", "form", "is_outside"] (spInit C) ∧ Binds K fd ["self", "form", "is_outside"] []
  mgc : mg "Region" = some (.ref C)
end
section
variable {X : Cx} {C : Addr} {ρ : DE} {M : Mem} {e : Expr} {es : List Expr} {d f : Dt} {o : Bool} {pos p : Pos}
theorem mk_of {F H : Hp} {σ : L2.St} {Q : VK} (I : En C F ρ M σ H) (q : ∀ v F' H', Ext F H F' H' → Rp C F' v (.reg f o) → Q v H') : tMake C (spInit C) [] E0 (tRA C ρ M [f, .bl o]) σ H Q := ⟨F, I, fun vs F1 H1 e1 r1 x dx hx hd hne => by
  obtain ⟨v, u, rfl, r2, r3⟩ := r1.two
  rw [r3.inj_bl]
  refine ⟨x, dx, v, o, rfl, upd_same, rfl, ?_⟩
  rw [upd_upd]
  have hx2 : upd H1 dx (.own x) x = none := by rw [upd_ne (Ne.symm hne)]; exact hx
  have e2 : Ext F1 H1 (upd F1 dx (.own x)) (upd H1 dx (.own x)) := .new e1.fh hd
  have e3 : Ext (upd F1 dx (.own x)) (upd H1 dx (.own x)) (upd (upd F1 dx (.own x)) x (.ins C dx (rgF v o))) (upd (upd H1 dx (.own x)) x (.ins C dx (rgF v o))) := .new e2.fh hx2
  exact q _ _ _ (e1.trans (e2.trans e3)) (.reg upd_same (r2.to (e2.trans e3).f))⟩
theorem ev_mk {j : Nat} (c : MkD X.prog X.w X.K X.mg X.base C) (hr : Room j X.A) (ha : EvA X C ρ M (e :: es) [f, .bl o]) (hk : 2 ≤ j := by first | assumption | decide) (hg : Gl X "Region" := by rfl) (he : starEach (e :: es) X.env = (false, eval e X.env) :: starEach es X.env := by rfl) (hpl : (backTo pos (starEach es X.env)).any (·.1) = false := by rfl) :
    Ev X C ρ M (.Call (.Name "Region" p) (e :: es) [] pos) (.reg f o) := by
  obtain ⟨g, fd, hmk, F, b⟩ := c.ex
  exact PE.imp (pe_make hmk F (hr.mono hk) hg c.mgc b .nil pass0 ha (by decide) he hpl) fun σ H Q ⟨F, I, q⟩ => mk_of I q
/-- cls(..), cls a name of this def -/
theorem pe_makeL {CX : CXT} {k i : Nat} {g : Addr} {fd : FuncData} {ps : List Str} {sp : Sp} {E : XK} {x : Str} {t : TA} (hM : Mk X.K C g) (F : FnOk X.prog X.w X.K X.mg X.base CX k g fd ps sp) (hr : Room (k + 1) X.A) (hN : X.N[i]? = some x) (hv : Vis X.env.scope x) (hb : Binds X.K fd ps []) (hx : Passes CX X E)
    (ha : PA X (e :: es) t) (hdb : (x == ("__debug__" : Str)) = false := by decide) (hcd : (x == ("__classdict__" : Str)) = false := by decide) (he : starEach (e :: es) X.env = (false, eval e X.env) :: starEach es X.env := by rfl) (hpl : (backTo pos (starEach es X.env)).any (·.1) = false := by rfl) :
    PE X (.Call (.Name x p) (e :: es) [] pos) (fun σ H Q => σ[i]? = some (some (.ref C)) ∧ tMake C sp [] E t σ H Q) := by
  refine ⟨fun pins s σ H Q I ⟨hs, h⟩ => ?_⟩
  refine wpAny_Call_Name_kw (thn ((pe_var (pos := p) hN hv hdb hcd).run pins s σ H (fun v H1 => v = .ref C ∧ H1 = H) I ⟨.ref C, hs, rfl, rfl⟩) fun u s1 ⟨v, H1, I1, r1, q1⟩ => ?_)
  obtain ⟨rfl, rfl⟩ := q1
  cases r1
  refine PySem.W.callWith_K (h₀ := X.base) I.ok.mod.kin hM.kp (thn (ha.run pos pins s1 σ _ _ I1 h) fun us s2 ⟨vs, H2, I2, r, q⟩ => ⟨I2.kIn, ?_⟩) he hpl
  exact run_make hM F hr hb .nil hx I2 r q
theorem ev_mkL {j : Nat} (i : Nat) {x : Str} (c : MkD X.prog X.w X.K X.mg X.base C) (hr : Room j X.A) (ha : EvA X C ρ M (e :: es) [f, .bl o]) (hi : ρ[i]? = some (some (.ref C)) := by rfl) (hk : 2 ≤ j := by first | assumption | decide) (hN : X.N[i]? = some x := by rfl) (hv : Vis X.env.scope x := by first | exact Or.inl rfl | exact Or.inr (Or.inl rfl) | exact Or.inr (Or.inr rfl))
    (hdb : (x == ("__debug__" : Str)) = false := by decide) (hcd : (x == ("__classdict__" : Str)) = false := by decide) (he : starEach (e :: es) X.env = (false, eval e X.env) :: starEach es X.env := by rfl) (hpl : (backTo pos (starEach es X.env)).any (·.1) = false := by rfl) :
    Ev X C ρ M (.Call (.Name x p) (e :: es) [] pos) (.reg f o) := by
  obtain ⟨g, fd, hmk, F, b⟩ := c.ex
  exact PE.imp (pe_makeL hmk F (hr.mono hk) hN hv b pass0 ha hdb hcd he hpl) fun σ H Q ⟨F, I, q⟩ => by
    obtain ⟨v, h1, h2⟩ := I.sl i _ hi
    rw [h2.inj_ref] at h1
    exact ⟨h1, mk_of I q⟩
end
/-! ### operators of their own -/
structure OwnD (P : Program) (w : World) (K : PySem.W.Frag) (mg : Str → Option Value) (base : Heap) (C : Addr) (k : Nat) (m : Str) (R : List Dt → Dt → Prop) : Prop where
  ex : ∃ g, PySem.W.findIn K (.ref C) m = some (some (.ref g)) ∧ PySem.W.isFn K (.ref g) = true ∧ FnR P w K mg base CX0 k g (spD C R)
section
variable {X : Cx} {C : Addr} {ρ : DE} {M : Mem} {a b e : Expr} {d d1 f g : Dt} {o u : Bool} {pos : Pos} {R : List Dt → Dt → Prop} {n j : Nat}
theorem sp_own {Q : VK} {F H : Hp} {vs : List V} {ds : List Dt} (e : Same F H) (r : RpAll C F vs ds) (h : R ds d) (q : ∀ v F' H', Ext F H F' H' → Rp C F' v d → Q v H') : spD C R vs H Q E0 := ⟨F, ds, d, e, r, h, q⟩
theorem ev_orR (c : OwnD X.prog X.w X.K X.mg X.base C n "__or__" R) (hc : PySem.W.selfFirst X.K C = true) (hr : Room j X.A) (ha : Ev X C ρ M a (.reg f o)) (hb : Ev X C ρ M b (.reg g u)) (h : R [.reg f o, .reg g u] d) (hk : n ≤ j := by first | assumption | decide) : Ev X C ρ M (.BinOp a .BitOr b pos) d := by
  obtain ⟨g, h1, h2, F⟩ := c.ex
  refine ev_op (op_ownB hc h1 h2 F (hr.mono hk)) (fun x y F H Q e r1 r2 q => ?_) ha hb
  obtain ⟨a1, dx, z, rfl, hx, _⟩ := id r1.inj_reg
  obtain ⟨a2, dy, z2, rfl, hy, _⟩ := id r2.inj_reg
  exact ⟨a1, dx, _, a2, dy, _, rfl, rfl, e _ _ hx, e _ _ hy, sp_own e (.cons r1 (.cons r2 .nil)) h q⟩
theorem ev_invR (c : OwnD X.prog X.w X.K X.mg X.base C n "__invert__" R) (hr : Room j X.A) (ha : Ev X C ρ M a (.reg f o)) (h : R [.reg f o] d) (hk : n ≤ j := by first | assumption | decide) : Ev X C ρ M (.UnaryOp .Invert a pos) d := by
  obtain ⟨g, h1, h2, F⟩ := c.ex
  refine PE.imp (pe_un (un_ownI h1 h2 F (hr.mono hk)) ha) fun σ H Q ⟨F, I, q⟩ => ⟨F, I, fun v F1 H1 e1 r1 => ?_⟩
  obtain ⟨a1, dx, z, rfl, hx, _⟩ := id r1.inj_reg
  exact ⟨a1, dx, _, rfl, e1.fh _ _ hx, sp_own e1.fh (.cons r1 .nil) h fun v F2 H2 e2 r2 => q v F2 H2 (e1.trans e2) r2⟩
theorem et_inR {k : Bool} (c : OwnD X.prog X.w X.K X.mg X.base C n "__contains__" R) (hr : Room j X.A) (ha : Ev X C ρ M a d1) (hb : Ev X C ρ M b (.reg f o)) (h : R [.reg f o, d1] (.bl k)) (hk : n ≤ j := by first | assumption | decide) (hm : behindInMarks .In b = false := by rfl) : EvT X C ρ M (.Compare a [.In] [b] pos) k := by
  obtain ⟨g, h1, h2, F⟩ := c.ex
  refine et_cmp (op_ownIn h1 h2 F (hr.mono hk)) (fun x y F H Q e r1 r2 q => ?_) ha hb hm
  obtain ⟨a1, dx, z, rfl, hx, _⟩ := id r2.inj_reg
  exact ⟨a1, dx, _, rfl, e _ _ hx, sp_own e (.cons r2 (.cons r1 .nil)) h fun v F' H' e' r' => ⟨k, r'.inj_bl, q _ F' H' e' (.bl _)⟩⟩
theorem et_notinR {k : Bool} (c : OwnD X.prog X.w X.K X.mg X.base C n "__contains__" R) (hr : Room j X.A) (ha : Ev X C ρ M a d1) (hb : Ev X C ρ M b (.reg f o)) (h : R [.reg f o, d1] (.bl k)) (hk : n ≤ j := by first | assumption | decide) (hm : behindInMarks .NotIn b = false := by rfl) : EvT X C ρ M (.Compare a [.NotIn] [b] pos) (!k) := by
  obtain ⟨g, h1, h2, F⟩ := c.ex
  refine et_cmp (op_ownNotIn h1 h2 F (hr.mono hk)) (fun x y F H Q e r1 r2 q => ?_) ha hb hm
  obtain ⟨a1, dx, z, rfl, hx, _⟩ := id r2.inj_reg
  exact ⟨a1, dx, _, rfl, e _ _ hx, sp_own e (.cons r2 (.cons r1 .nil)) h fun v F' H' e' r' => ⟨k, r'.inj_bl, q _ F' H' e' (.bl _)⟩⟩
theorem ev_neR {k : Bool} (c : OwnD X.prog X.w X.K X.mg X.base C n "__eq__" R) (hn : PySem.W.findIn X.K (.ref C) "__ne__" = some (some (.builtin "object.__ne__"))) (hso : PySem.W.subIn X.K (.ref C) (.type "object") = some true) (hr : Room j X.A) (ha : Ev X C ρ M a (.reg f o)) (hb : Ev X C ρ M b (.reg g u))
    (h : R [.reg f o, .reg g u] (.bl k)) (hk : n + 1 ≤ j := by first | assumption | decide) : Ev X C ρ M (.Compare a [.NotEq] [b] pos) (.bl (!k)) := by
  obtain ⟨g, h1, h2, F⟩ := c.ex
  refine ev_cmp (op_ownNe h1 h2 hn hso F (hr.mono hk)) (fun x y F H Q e r1 r2 q => ?_) ha hb (nomark _)
  obtain ⟨a1, dx, z, rfl, hx, _⟩ := id r1.inj_reg
  obtain ⟨a2, dy, z2, rfl, hy, _⟩ := id r2.inj_reg
  exact ⟨a1, dx, _, a2, dy, _, rfl, rfl, e _ _ hx, e _ _ hy, sp_own e (.cons r1 (.cons r2 .nil)) h fun v F' H' e' r' => ⟨k, r'.inj_bl, q _ F' H' e' (.bl _)⟩⟩
end
end BR
/-! BrW1: spans. -/
namespace BR
open PySem PySem.Spec PyProof.Rows L2
/-- built-ins not hidden by the module's names -/
structure NB (mg : Str → Option Value) : Prop where
  h : ∀ x, x ∈ (["any", "all", "min", "max", "len", "sorted", "set", "list", "tuple", "range", "zip", "abs", "isinstance", "dict", "enumerate", "repr", "int"] : List Str) → mg x = none
theorem noL_pr (p : Pr) : noL (dPr p) = true := by simp [dPr, noL, noLs]
theorem noL_spans (p : List Pr) : noL (dSpans p) = true := by simp [dSpans, noL, noLs_map noL_pr]
theorem noL_slab (p : Slab) : noL (dSlab p) = true := by simp [dSlab, noL, noLs, noL_spans]
theorem noL_form (p : Form) : noL (dForm p) = true := by simp [dForm, noL, noLs_map noL_slab]
theorem ixN_last {n : Nat} (h : 0 < n) : ixN n (-1) = some (n - 1) := by
  unfold ixN
  rw [if_neg (by decide), if_pos (by omega)]
  congr 1
  omega
theorem getLast_ix {α : Type} {xs : List α} {l : α} (h : xs.getLast? = some l) : 0 < xs.length ∧ xs[xs.length - 1]? = some l := by
  have hne : xs ≠ [] := fun z => by subst z; cases h
  rw [List.getLast?_eq_getElem?] at h
  exact ⟨List.length_pos_iff.mpr hne, h⟩
theorem atI_last {α β : Type} {f : α → β} {xs : List α} {l : α} (h : xs.getLast? = some l) : atI (xs.map f) (-1) = some (f l) := by
  obtain ⟨h1, h2⟩ := getLast_ix h
  unfold atI
  rw [List.length_map, ixN_last h1]
  show (xs.map f)[xs.length - 1]? = _
  rw [List.getElem?_map, h2]
  rfl
theorem set_last {α β : Type} {f : α → β} {xs : List α} {l x : α} (h : xs.getLast? = some l) : (xs.map f).set (xs.length - 1) (f x) = (xs.dropLast ++ [x]).map f := by
  have hne : xs ≠ [] := fun z => by subst z; cases h
  have e : xs = xs.dropLast ++ [l] := by
    rw [List.getLast?_eq_some_getLast hne] at h
    cases h
    exact (List.dropLast_concat_getLast hne).symm
  generalize hd : xs.dropLast = ys at *
  subst e
  simp
section
variable {P : Program} {w : World} {K : PySem.W.Frag} {mg : Str → Option Value} {base : Heap} {C : Addr}
/-! is_covered -/
def rCov : List Dt → Dt → Prop := fun ds d => ∃ (ss : List Pr) (n : Int), ss.length ≤ 1000 ∧ ds = [dSpans ss, .int n] ∧ d = .bl (isCov ss n)
theorem c_is_covered {f : Addr} {fd : FuncData} (F : Fun K "is_covered" "is_covered" s_is_covered f fd) (hm : mg "is_covered" = some (.ref f)) (B : NB mg) : CalD P w K mg base C 1 "is_covered" rCov :=
  calD F sc_is_covered hm (fun _ _ _ _ _ _ us hl => match us, hl with | [_, _], _ => rfl) (by rintro ds d ⟨ss, n, _, rfl, _⟩; rfl) fun cdv A outer s H E ds d hr h => by
    obtain ⟨ss, n, hl, rfl, rfl⟩ := h
    exact sds_cons (sd_ret (ev_callB (cr_any rfl) cd_any (ea_cons (ev_new (en_lc1 (own := [("a", 2), ("b", 3)]) (ei_tup (ev_v 0)) (eb_t (egs_cons (eb_n 2 sc_is_covered.nd) (egs_cons (eb_n 3 sc_is_covered.nd) egs_nil)))
      (fun x hx => ⟨_, rfl, fun _ _ _ _ _ => ev_chain (ev_v 2) (ev_v 1) (ev_v 3)⟩) (by omega) sc_is_covered.nd (blkOk_by (N := n_is_covered) (sc := defScope s_is_covered) (by decide +kernel)))) ea_nil) (B.h _ (by decide))) rfl)
/-! holds_span -/
def rHolds : List Dt → Dt → Prop := fun ds d => ∃ (ss : List Pr) (a b : Int), ss.length ≤ 1000 ∧ ds = [dSpans ss, dPr (a, b)] ∧ d = .bl (holdsSp ss a b)
theorem c_holds_span {f : Addr} {fd : FuncData} (F : Fun K "holds_span" "holds_span" s_holds_span f fd) (hm : mg "holds_span" = some (.ref f)) (B : NB mg) : CalD P w K mg base C 1 "holds_span" rHolds :=
  calD F sc_holds_span hm (fun _ _ _ _ _ _ us hl => match us, hl with | [_, _], _ => rfl) (by rintro ds d ⟨ss, a, b, _, rfl, _⟩; rfl) fun cdv A outer s H E ds d hr h => by
    obtain ⟨ss, a, b, hl, rfl, rfl⟩ := h
    exact sds_cons (sd_ret (ev_callB (cr_any rfl) cd_any (ea_cons (ev_new (en_lc1 (own := [("a", 2), ("b", 3)]) (ei_tup (ev_v 0)) (eb_t (egs_cons (eb_n 2 sc_holds_span.nd) (egs_cons (eb_n 3 sc_holds_span.nd) egs_nil)))
      (fun x hx => ⟨_, rfl, fun _ _ _ _ _ => ev_and (ev_le (ev_v 2) (ev_ixT (ev_v 1) ev_int)) fun _ => ev_one (ev_le (ev_ixT (ev_v 1) ev_int) (ev_v 3))⟩) (by omega) sc_holds_span.nd (blkOk_by (N := n_holds_span) (sc := defScope s_holds_span) (by decide +kernel)))) ea_nil) (B.h _ (by decide))) rfl)
/-! is_wanted -/
def wdS : Wd → Str
  | .or => "or"
  | .less => "less"
def rWant : List Dt → Dt → Prop := fun ds d => ∃ (a b : Bool) (wd : Wd), ds = [.bl a, .bl b, .str (wdS wd)] ∧ d = .bl (want wd a b)
theorem c_is_wanted {f : Addr} {fd : FuncData} (F : Fun K "is_wanted" "is_wanted" s_is_wanted f fd) (hm : mg "is_wanted" = some (.ref f)) : CalD P w K mg base C 1 "is_wanted" rWant :=
  calD F sc_is_wanted hm (fun _ _ _ _ _ _ us hl => match us, hl with | [_, _, _], _ => rfl) (by rintro ds d ⟨a, b, wd, rfl, _⟩; rfl) fun cdv A outer s H E ds d hr h => by
    obtain ⟨a, b, wd, rfl, rfl⟩ := h
    refine sds_cons (sd_if (et_eqStr (ev_v 2) ev_str) (fun h1 => sds_cons (sd_ret (ev_or (ev_v 0) fun _ => ev_one (ev_v 1)) ?_)) fun h1 => sds_nil (sds_cons (sd_if (et_eqStr (ev_v 2) ev_str) (fun h2 => ?_) fun h2 => sds_nil (sds_cons (sd_ret (ev_if (et_eqStr (ev_v 2) ev_str) (fun h3 => ?_) fun h3 => ev_and (ev_v 0) fun _ => ev_one (ev_not (ev_v 1))) ?_)))))
    · cases wd
      · rfl
      · cases h1
    · cases wd <;> cases h2
    · cases wd <;> cases h3
    · cases wd
      · cases h1
      · rfl
/-! merged -/
def rMerged : List Dt → Dt → Prop := fun ds d => ∃ ps : List Pr, ps.length ≤ 1000 ∧ ds = [.lst (ps.map dPr)] ∧ d = dSpans (merged ps)
theorem merge_len : ∀ (ps fs : List Pr), (ps.foldl mergeStep fs).length ≤ fs.length + ps.length
  | [], fs => by simp
  | p :: ps, fs => by
    rw [List.foldl_cons]
    have := merge_len ps (mergeStep fs p)
    have h : (mergeStep fs p).length ≤ fs.length + 1 := by
      unfold mergeStep
      cases hl : fs.getLast? with
      | none => simp
      | some l =>
        have hne : fs ≠ [] := fun z => by subst z; cases hl
        have := List.length_pos_iff.mpr hne
        dsimp only
        split
        · rw [List.length_append, List.length_dropLast, List.length_singleton]; omega
        · rw [List.length_append, List.length_singleton]; omega
    rw [List.length_cons]
    omega
theorem c_merged {f : Addr} {fd : FuncData} (F : Fun K "merged" "merged" s_merged f fd) (hm : mg "merged" = some (.ref f)) (B : NB mg) : CalD P w K mg base C 1 "merged" rMerged :=
  calD F sc_merged hm (fun _ _ _ _ _ _ us hl => match us, hl with | [_], _ => rfl) (by rintro ds d ⟨ps, _, rfl, _⟩; rfl) fun cdv A outer s H E ds d hr h => by
    obtain ⟨ps, hl, rfl, rfl⟩ := h
    refine sds_cons (sd_setN 1 (en_lst ea_nil) (fun p => ?_) sc_merged.nd)
    refine sds_cons (sd_forS (ei_lst (ev_new (en_callB cr_sortedPO cn_sortedP (ea_cons (ev_v 0) ea_nil) (B.h _ (by decide))))) (eg_t (egs_cons (eg_n 2 sc_merged.nd) (egs_cons (eg_n 3 sc_merged.nd) egs_nil)))
      (fun pre => [some (.lst (ps.map dPr)), some (.ref p), none, none]) (fun pre => [(p, .lst ((pre.foldl mergeStep []).map dPr))]) .refl rfl (fun pre x post hx => ⟨_, rfl, ?_⟩) ?_)
    · rw [List.foldl_append]
      have hf : (pre.foldl mergeStep []).length ≤ 1000 := by
        have h1 := merge_len pre []
        have h2 := congrArg List.length hx
        rw [sortP_perm.length_eq, List.length_append, List.length_cons] at h2
        rw [List.length_nil] at h1
        omega
      generalize pre.foldl mergeStep [] = fs at *
      show SDs _ C _ _ _ { nx := fun ρ' M' => ∃ ρ1, Le ρ1 ρ' ∧ (ρ1 = _ ∧ M' = [(p, .lst ((mergeStep fs x).map dPr))]), ct := _, bk := _, rt := _ }
      cases hfs : fs.getLast? with
      | none =>
        have e : fs = [] := List.getLast?_eq_none_iff.mp hfs
        subst e
        exact sds_cons (sd_if (EvW.t (ew_and (k2 := false) (et_view 0 1 (et_neX (x := []) (y := []) cpr_pr.lst hr (ev_v 1) (ev_new (en_lst ea_nil)))) fun h => nomatch h)) (fun h => nomatch h) fun _ => sds_cons (sd_app 0 (ev_v 1) (ev_tup (ea_cons (ev_v 2) (ea_cons (ev_v 3) ea_nil))) rfl (by decide) (sds_nil (sds_nil (nx_of rfl)))))
      | some l =>
        have hne : fs ≠ [] := fun z => by subst z; cases hfs
        refine sds_cons (sd_if (EvW.t (ew_and (et_view 0 1 (et_neX (x := fs) (y := []) cpr_pr.lst hr (ev_v 1) (ev_new (en_lst ea_nil)))) fun h => ew_and1 (et_le (ev_v 2) (ev_view 0 1 (ev_ixT (ev_ixL (ev_v 1) (ev_neg ev_int) (atI_last (f := dPr) hfs)) ev_int))))) (fun h => ?_) fun h => ?_)
        · have h2 : x.1 ≤ l.2 := by
            rw [Bool.and_eq_true] at h
            exact of_decide_eq_true h.2
          refine sds_cons (sd_setL 0 (ev_v 1) (ev_neg ev_int) (ev_tup (ea_cons (ev_view 0 1 (ev_ixT (ev_ixL (ev_v 1) (ev_neg ev_int) (atI_last (f := dPr) hfs)) ev_int)) (ea_cons (ev_callB (call_max2 rfl) cd_max2 (ea_cons (ev_v 3) (ea_cons (ev_view 0 1 (ev_ixT (ev_ixL (ev_v 1) (ev_neg ev_int) (atI_last (f := dPr) hfs)) ev_int)) ea_nil)) (B.h _ (by decide))) ea_nil))) rfl (by rw [List.length_map]; exact ixN_last (List.length_pos_iff.mpr hne)) ?_)
          refine sds_nil (sds_nil (nx_of ?_))
          unfold mergeStep
          rw [hfs]
          dsimp only
          rw [if_pos h2]
          show [(p, Dt.lst ((fs.map dPr).set (fs.length - 1) (dPr (l.1, if l.2 > x.2 then l.2 else x.2))))] = _
          rw [set_last hfs]
        · have h2 : ¬ x.1 ≤ l.2 := fun z => by
            rw [Bool.and_eq_false_iff] at h
            rcases h with h | h
            · simp [hne] at h
            · simp [z] at h
          refine sds_cons (sd_app 0 (ev_v 1) (ev_tup (ea_cons (ev_v 2) (ea_cons (ev_v 3) ea_nil))) rfl (by rw [List.length_map]; omega) (sds_nil (sds_nil (nx_of ?_))))
          unfold mergeStep
          rw [hfs]
          dsimp only
          rw [if_neg h2, List.map_append]
          rfl
    · refine sds_freeze 0 1 ?_
      exact sds_cons (sd_ret (ev_callTy call_tuple_of cd_tupleL (ea_cons (ev_v 1) ea_nil) (B.h _ (by decide))) rfl)
/-! combined -/
def rComb : List Dt → Dt → Prop := fun ds d => ∃ (s1 s2 : List Pr) (wd : Wd) (B : List Int), s1.length + s2.length ≤ 400 ∧ B.length < 64 ∧ (∀ k ∈ endsOf (s1 ++ s2), k ∈ B) ∧ ds = [dSpans s1, dSpans s2, .str (wdS wd)] ∧ d = dSpans (combined s1 s2 wd)
theorem flat_ends (ss : List Pr) : (ss.flatMap fun s => [Dt.int s.1, Dt.int s.2]).map asI = endsOf ss := by
  rw [List.map_flatMap]; rfl
theorem ends_len : ∀ ss : List Pr, (endsOf ss).length = 2 * ss.length
  | [] => rfl
  | s :: ss => by
    show (s.1 :: s.2 :: endsOf ss).length = _
    rw [List.length_cons, List.length_cons, ends_len ss, List.length_cons]
    omega
theorem filter_snoc {α : Type} (p : α → Bool) (l : List α) (x : α) : (l ++ [x]).filter p = l.filter p ++ if p x = true then [x] else [] := by
  rw [List.filter_append]
  congr 1
  rw [List.filter_cons, List.filter_nil]
theorem pre_len {α : Type} {l pre post : List α} {x : α} (h : l = pre ++ x :: post) : pre.length < l.length := by
  rw [h, List.length_append, List.length_cons]; omega
theorem c_combined {f : Addr} {fd : FuncData} (F : Fun K "combined" "combined" s_combined f fd) (hm : mg "combined" = some (.ref f)) (B : NB mg) (cC : CalD P w K mg base C 1 "is_covered" rCov) (cW : CalD P w K mg base C 1 "is_wanted" rWant) (cM : CalD P w K mg base C 1 "merged" rMerged) : CalD P w K mg base C 2 "combined" rComb :=
  calD F sc_combined hm (fun _ _ _ _ _ _ us hl => match us, hl with | [_, _, _], _ => rfl) (by rintro ds d ⟨s1, s2, wd, Bs, _, _, _, rfl, _⟩; rfl) fun cdv A outer s H E ds d hr h => by
    obtain ⟨s1, s2, wd, Bs, hl, hB, hk, rfl, rfl⟩ := h
    have hz : ((s1 ++ s2).flatMap fun s => [Dt.int s.1, Dt.int s.2]).length = 2 * (s1.length + s2.length) := by
      have := ends_len (s1 ++ s2)
      rw [← flat_ends, List.length_map, List.length_append] at this
      exact this
    have hcat : ∀ {X : Cx} {ρ : DE} {M : Mem} {e : Expr}, Ev X C ρ M e (.tup (s1.map dPr ++ s2.map dPr)) → Ev X C ρ M e (.tup ((s1 ++ s2).map dPr)) := fun {X ρ M e} h => by rw [List.map_append]; exact h
    refine sds_cons (sd_set 3 (ev_new (en_sc (own := [("span", 7), ("end", 8)]) (vs' := [8]) (xs := s1 ++ s2) (enc := dPr) (f := fun s => [Dt.int s.1, Dt.int s.2]) Bs (ei_tup (hcat (ev_catT (ev_v 0) (ev_v 1) (by rw [List.length_map, List.length_map]; omega)))) (eb_n 7 sc_combined.nd)
      (fun x hx => ⟨_, true, rfl, fun _ _ _ _ _ => ets_nil, fun _ _ _ _ _ _ => cks (xs := [x.1, x.2]) (enc := Dt.int) (f := fun n => [Dt.int n]) (vs' := []) (ei_tup (ev_v 7)) (eg_n 8 sc_combined.nd) (fun n hn => ⟨_, true, rfl, ets_nil, fun _ => cks_elt (ev_v 8), fun h => nomatch h⟩), fun h => nomatch h⟩)
      (by rw [hz]; omega) hB (by rw [flat_ends]; exact hk) (B.h _ (by decide)) sc_combined.nd (blkOk_by (N := n_combined) (sc := defScope s_combined) (by decide +kernel)))) ?_ sc_combined.nd)
    rw [flat_ends]
    have hsz : (sortU (endsOf (s1 ++ s2))).length ≤ 63 := Nat.le_trans (sortU_len hk) (by omega)
    refine sds_cons (sd_setN 4 (en_lst ea_nil) (fun p => ?_) sc_combined.nd)
    refine sds_cons (sd_forS (ei_adj 3 rfl (B.h _ (by decide))) (eg_t (egs_cons (eg_n 5 sc_combined.nd) (egs_cons (eg_n 6 sc_combined.nd) egs_nil)))
      (fun pre => [some (dSpans s1), some (dSpans s2), some (.str (wdS wd)), none, some (.ref p), none, none, none, none]) (fun pre => [(p, .lst ((pre.filter fun q => want wd (isCov s1 q.1) (isCov s2 q.1)).map dPr))]) (by repeat (first | exact Le.nil | apply Le.some | apply Le.none)) rfl (fun pre x post hx => ⟨_, rfl, ?_⟩) ?_)
    · have hpl := pre_len hx
      rw [adj_len] at hpl
      refine sds_cons (sd_if (et_val (ev_call cW hr (ea_cons (ev_call cC hr (ea_cons (ev_v 0) (ea_cons (ev_v 5) ea_nil)) ⟨_, _, by omega, rfl, rfl⟩) (ea_cons (ev_call cC hr (ea_cons (ev_v 1) (ea_cons (ev_v 5) ea_nil)) ⟨_, _, by omega, rfl, rfl⟩) (ea_cons (ev_v 2) ea_nil))) ⟨_, _, wd, rfl, rfl⟩)) (fun h => ?_) fun h => sds_nil (sds_nil (nx_of ?_)))
      · refine sds_cons (sd_app 0 (ev_v 4) (ev_tup (ea_cons (ev_v 5) (ea_cons (ev_v 6) ea_nil))) rfl ?_ (sds_nil (sds_nil (nx_of ?_))))
        · rw [List.length_map]
          exact Nat.le_trans (List.length_filter_le _ _) (by omega)
        · rw [filter_snoc, if_pos h, List.map_append]
          rfl
      · rw [filter_snoc, if_neg (by rw [h]; exact Bool.false_ne_true), List.append_nil]
    · refine sds_freeze 0 4 ?_
      refine sds_cons (sd_ret (ev_call cM hr (ea_cons (ev_v 4) ea_nil) ⟨_, ?_, rfl, rfl⟩) rfl)
      refine Nat.le_trans (List.length_filter_le _ _) ?_
      rw [adj_len]
      omega
end
end BR
/-! BrW2: slabs. -/
namespace BR
open PySem PySem.Spec PyProof.Rows L2
section
variable {P : Program} {w : World} {K : PySem.W.Frag} {mg : Str → Option Value} {base : Heap} {C : Addr}
theorem EvT.cast {X : Cx} {ρ : DE} {M : Mem} {e : Expr} {k k' : Bool} (h : EvT X C ρ M e k) (z : k = k') : EvT X C ρ M e k' := z ▸ h
/-! spans_at -/
def rSpansAt : List Dt → Dt → Prop := fun ds d => ∃ (f : Form) (n : Int), ds = [dForm f, .int n] ∧ d = dSpans (spansAt f n)
theorem c_spans_at {f : Addr} {fd : FuncData} (F : Fun K "spans_at" "spans_at" s_spans_at f fd) (hm : mg "spans_at" = some (.ref f)) : CalD P w K mg base C 1 "spans_at" rSpansAt :=
  calD F sc_spans_at hm (fun _ _ _ _ _ _ us hl => match us, hl with | [_, _], _ => rfl) (by rintro ds d ⟨f, n, rfl, _⟩; rfl) fun cdv A outer s H E ds d hr h => by
    obtain ⟨f, n, rfl, rfl⟩ := h
    refine sds_cons (sd_forX (xs := f) (enc := dSlab) (ei_tup (ev_v 0)) (eg_t (egs_cons (eg_n 2 sc_spans_at.nd) (egs_cons (eg_n 3 sc_spans_at.nd) (egs_cons (eg_n 4 sc_spans_at.nd) egs_nil)))) (fun pre ρ1 M1 => (ρ1 = [some (dForm f), some (.int n), none, none, none] ∧ M1 = []) ∧ ∀ post, f = pre ++ post → spansAt f n = spansAt post n) ⟨⟨rfl, rfl⟩, fun post e => by rw [e]; rfl⟩ ?_ ?_)
    · rintro pre x post ρ1 M1 e ⟨⟨rfl, rfl⟩, hI⟩
      have hI := hI _ e
      refine ⟨_, rfl, sds_cons (sd_if (et_chain (ev_v 2) (ev_v 1) (ev_v 3)) (fun h => sds_cons (sd_ret (ev_v 4) ?_)) fun h => sds_nil (sds_nil ?_))⟩
      · show dSpans x.2.2 = dSpans (spansAt f n)
        rw [hI]
        unfold spansAt
        rw [if_pos (of_decide_eq_true h)]
      · refine ⟨[some (dForm f), some (.int n), none, none, none], by repeat (first | exact Le.nil | apply Le.some | apply Le.none), ⟨rfl, rfl⟩, fun post' e' => ?_⟩
        have : post' = post := by
          have := e.symm.trans e'
          rw [List.append_assoc] at this
          exact (List.append_cancel_left this |> fun z => (List.cons.inj z).2).symm
        subst this
        rw [hI]
        show (if _ then _ else _) = _
        rw [if_neg (of_decide_eq_false h)]
    · rintro ρ1 M1 ⟨⟨rfl, rfl⟩, hI⟩
      refine sds_cons (sd_ret (ev_tup ea_nil) ?_)
      have := hI [] (by simp)
      rw [this]
      rfl
/-! tidy -/
def rTidy : List Dt → Dt → Prop := fun ds d => ∃ f : Form, f.length ≤ 1000 ∧ ds = [.lst (f.map dSlab)] ∧ d = dForm (tidy f)
theorem tidyStep_len (fs : Form) (p : Slab) : (tidyStep fs p).length ≤ fs.length + 1 := by
  unfold tidyStep
  cases hl : fs.getLast? with
  | none =>
    dsimp only
    split <;> simp
  | some l =>
    have hne : fs ≠ [] := fun z => by subst z; cases hl
    have := List.length_pos_iff.mpr hne
    dsimp only
    split
    · rw [List.length_append, List.length_dropLast, List.length_singleton]; omega
    · split
      · omega
      · rw [List.length_append, List.length_singleton]; omega
theorem tidy_len : ∀ (ps fs : Form), (ps.foldl tidyStep fs).length ≤ fs.length + ps.length
  | [], fs => by simp
  | p :: ps, fs => by
    rw [List.foldl_cons]
    have := tidy_len ps (tidyStep fs p)
    have h := tidyStep_len fs p
    rw [List.length_cons]
    omega
def joins (fs : Form) (x1 : Int) (ss : List Pr) : Bool := match fs.getLast? with
  | none => false
  | some l => decide (l.2.1 = x1) && decide (l.2.2 = ss)
theorem joins_yes {fs : Form} {x1 : Int} {ss : List Pr} (h : joins fs x1 ss = true) : ∃ l, fs.getLast? = some l ∧ l.2.1 = x1 ∧ l.2.2 = ss := by
  unfold joins at h
  cases hfs : fs.getLast? with
  | none => rw [hfs] at h; cases h
  | some l =>
    rw [hfs] at h
    simp only [Bool.and_eq_true, decide_eq_true_eq] at h
    exact ⟨l, rfl, h⟩
theorem joins_no {fs : Form} {x1 x2 : Int} {ss : List Pr} (h : joins fs x1 ss = false) : tidyStep fs (x1, x2, ss) = if ss = [] then fs else fs ++ [(x1, x2, ss)] := by
  unfold joins at h
  unfold tidyStep
  cases hfs : fs.getLast? with
  | none =>
    have e : fs = [] := List.getLast?_eq_none_iff.mp hfs
    subst e
    dsimp only
    rfl
  | some l =>
    rw [hfs] at h
    dsimp only
    rw [if_neg (fun z => by simp [z.1, z.2] at h)]
theorem c_tidy {f : Addr} {fd : FuncData} (F : Fun K "tidy" "tidy" s_tidy f fd) (hm : mg "tidy" = some (.ref f)) (B : NB mg) : CalD P w K mg base C 1 "tidy" rTidy :=
  calD F sc_tidy hm (fun _ _ _ _ _ _ us hl => match us, hl with | [_], _ => rfl) (by rintro ds d ⟨f, _, rfl, _⟩; rfl) fun cdv A outer s H E ds d hr h => by
    obtain ⟨f, hl, rfl, rfl⟩ := h
    refine sds_cons (sd_setN 1 (en_lst ea_nil) (fun p => ?_) sc_tidy.nd)
    refine sds_cons (sd_forS (xs := f) (enc := dSlab) (ei_lst (ev_v 0)) (eg_t (egs_cons (eg_n 2 sc_tidy.nd) (egs_cons (eg_n 3 sc_tidy.nd) (egs_cons (eg_n 4 sc_tidy.nd) egs_nil))))
      (fun pre => [some (.lst (f.map dSlab)), some (.ref p), none, none, none]) (fun pre => [(p, .lst ((pre.foldl tidyStep []).map dSlab))]) .refl rfl (fun pre x post hx => ⟨_, rfl, ?_⟩) ?_)
    · rw [List.foldl_append]
      have hf : (pre.foldl tidyStep []).length ≤ 1000 := by
        have h1 := tidy_len pre []
        have h2 := pre_len hx
        rw [List.length_nil] at h1
        omega
      generalize pre.foldl tidyStep [] = fs at *
      show SDs _ C _ _ _ { nx := fun ρ' M' => ∃ ρ1, Le ρ1 ρ' ∧ (ρ1 = _ ∧ M' = [(p, .lst ((tidyStep fs x).map dSlab))]), ct := _, bk := _, rt := _ }
      obtain ⟨x1, x2, ss⟩ := x
      refine sds_cons (sd_if (k := joins fs x1 ss) ?_ (fun h => ?_) fun h => sds_cons (sd_if (et_neX (x := ss) (y := []) cpr_spans hr (ev_v 4) (ev_tup ea_nil)) (fun h3 => sds_cons (sd_app 0 (ev_v 1) (ev_tup (ea_cons (ev_v 2) (ea_cons (ev_v 3) (ea_cons (ev_v 4) ea_nil)))) rfl (by rw [List.length_map]; omega) (sds_nil (sds_nil (sds_nil (nx_of ?_)))))) fun h3 => sds_nil (sds_nil (sds_nil (nx_of ?_)))))
      · cases hfs : fs.getLast? with
        | none =>
          have e : fs = [] := List.getLast?_eq_none_iff.mp hfs
          exact (EvW.t (ew_and (k2 := false) (et_view 0 1 (et_neX (x := fs) (y := []) cpr_slab.lst hr (ev_v 1) (ev_new (en_lst ea_nil)))) fun h => by simp [e] at h)).cast (by simp [joins, hfs])
        | some l =>
          have hne : fs ≠ [] := fun z => by subst z; cases hfs
          exact (EvW.t (ew_and (et_view 0 1 (et_neX (x := fs) (y := []) cpr_slab.lst hr (ev_v 1) (ev_new (en_lst ea_nil)))) fun h => ew_and (et_view 0 1 (et_eqI (ev_ixT (ev_ixL (ev_v 1) (ev_neg ev_int) (atI_last (f := dSlab) hfs)) ev_int) (ev_v 2))) fun h => ew_and1 (et_view 0 1 (et_eqX (x := l.2.2) (y := ss) cpr_spans hr (ev_ixT (ev_ixL (ev_v 1) (ev_neg ev_int) (atI_last (f := dSlab) hfs)) ev_int) (ev_v 4))))).cast (by simp [joins, hfs, hne])
      · obtain ⟨l, hfs, h2⟩ := joins_yes h
        have hne : fs ≠ [] := fun z => by subst z; cases hfs
        refine sds_cons (sd_setL 0 (ev_v 1) (ev_neg ev_int) (ev_tup (ea_cons (ev_view 0 1 (ev_ixT (ev_ixL (ev_v 1) (ev_neg ev_int) (atI_last (f := dSlab) hfs)) ev_int)) (ea_cons (ev_v 3) (ea_cons (ev_v 4) ea_nil)))) rfl (by rw [List.length_map]; exact ixN_last (List.length_pos_iff.mpr hne)) ?_)
        refine sds_nil (sds_nil (nx_of ?_))
        unfold tidyStep
        rw [hfs]
        dsimp only
        rw [if_pos h2]
        show [(p, Dt.lst ((fs.map dSlab).set (fs.length - 1) (dSlab (l.1, x2, ss))))] = _
        rw [set_last hfs]
      · have hs : ss ≠ [] := by simpa using h3
        rw [joins_no h, if_neg hs, List.map_append]
        rfl
      · have hs : ss = [] := by simpa using h3
        rw [joins_no h, if_pos hs]
    · refine sds_freeze 0 1 ?_
      exact sds_cons (sd_ret (ev_callTy call_tuple_of cd_tupleL (ea_cons (ev_v 1) ea_nil) (B.h _ (by decide))) rfl)
/-! cuts_of -/
def rCuts : List Dt → Dt → Prop := fun ds d => ∃ (f : Form) (B : List Int), f.length ≤ 500 ∧ B.length < 64 ∧ (∀ k ∈ xsOf f, k ∈ B) ∧ ds = [dForm f] ∧ d = .lst ((cutsOf f).map Dt.int)
theorem flat_xs (f : Form) : (f.flatMap fun s => [Dt.int s.1, Dt.int s.2.1]).map asI = xsOf f := by
  rw [List.map_flatMap]; rfl
theorem flat2_len {α β : Type} (g h : α → β) : ∀ xs : List α, (xs.flatMap fun x => [g x, h x]).length = 2 * xs.length
  | [] => rfl
  | x :: xs => by
    simp only [List.flatMap_cons, List.length_append, flat2_len g h xs, List.length_cons, List.length_nil]
    omega
theorem c_cuts_of {f : Addr} {fd : FuncData} (F : Fun K "cuts_of" "cuts_of" s_cuts_of f fd) (hm : mg "cuts_of" = some (.ref f)) (B : NB mg) : CalD P w K mg base C 1 "cuts_of" rCuts :=
  calD F sc_cuts_of hm (fun _ _ _ _ _ _ us hl => match us, hl with | [_], _ => rfl) (by rintro ds d ⟨f, Bs, _, _, _, rfl, _⟩; rfl) fun cdv A outer s H E ds d hr h => by
    obtain ⟨f, Bs, hl, hB, hk, rfl, rfl⟩ := h
    refine sds_cons (sd_ret (ev_new (en_sc (own := [("x1", 1), ("x2", 2), ("spans", 3), ("x", 4)]) (vs' := [4]) (xs := f) (enc := dSlab) (f := fun s => [Dt.int s.1, Dt.int s.2.1]) Bs (ei_tup (ev_v 0)) (eb_t (egs_cons (eb_n 1 sc_cuts_of.nd) (egs_cons (eb_n 2 sc_cuts_of.nd) (egs_cons (eb_n 3 sc_cuts_of.nd) egs_nil))))
      (fun x hx => ⟨_, true, rfl, fun _ _ _ _ _ => ets_nil, fun _ _ _ _ _ _ => cks (xs := [x.1, x.2.1]) (enc := Dt.int) (f := fun n => [Dt.int n]) (vs' := []) (ei_tup (ev_tup (ea_cons (ev_v 1) (ea_cons (ev_v 2) ea_nil)))) (eg_n 4 sc_cuts_of.nd) (fun n hn => ⟨_, true, rfl, ets_nil, fun _ => cks_elt (ev_v 4), fun h => nomatch h⟩), fun h => nomatch h⟩)
      (by rw [flat2_len]; omega) hB (by rw [flat_xs]; exact hk) (B.h _ (by decide)) sc_cuts_of.nd (blkOk_by (N := n_cuts_of) (sc := defScope s_cuts_of) (by decide +kernel)))) ?_)
    rw [flat_xs]
    rfl
/-! boxes_of -/
def rBoxes : List Dt → Dt → Prop := fun ds d => ∃ f : Form, (boxesOf f).length ≤ 100000 ∧ ds = [dForm f] ∧ d = .lst ((boxesOf f).map dBox)
theorem c_boxes_of {f : Addr} {fd : FuncData} (F : Fun K "boxes_of" "boxes_of" s_boxes_of f fd) (hm : mg "boxes_of" = some (.ref f)) : CalD P w K mg base C 1 "boxes_of" rBoxes :=
  calD F sc_boxes_of hm (fun _ _ _ _ _ _ us hl => match us, hl with | [_], _ => rfl) (by rintro ds d ⟨f, _, rfl, _⟩; rfl) fun cdv A outer s H E ds d hr h => by
    obtain ⟨f, hl, rfl, rfl⟩ := h
    have e : (f.flatMap fun s => s.2.2.flatMap fun p => [dBox (s.1, p.1, s.2.1, p.2)]) = (boxesOf f).map dBox := by
      unfold boxesOf
      rw [List.map_flatMap]
      congr 1
      funext s
      rw [flatMap_one, List.map_map]
      rfl
    refine sds_cons (sd_ret (ev_new (en_lc (own := [("x1", 1), ("x2", 2), ("spans", 3), ("y1", 4), ("y2", 5)]) (vs' := [4, 5]) (xs := f) (enc := dSlab) (f := fun s => s.2.2.flatMap fun p => [dBox (s.1, p.1, s.2.1, p.2)]) (ei_tup (ev_v 0)) (eb_t (egs_cons (eb_n 1 sc_boxes_of.nd) (egs_cons (eb_n 2 sc_boxes_of.nd) (egs_cons (eb_n 3 sc_boxes_of.nd) egs_nil))))
      (fun x hx => ⟨_, true, rfl, fun _ _ _ _ _ => ets_nil, fun _ _ _ _ _ _ => ckl (xs := x.2.2) (enc := dPr) (vs' := []) (ei_tup (ev_v 3)) (eg_t (egs_cons (eg_n 4 sc_boxes_of.nd) (egs_cons (eg_n 5 sc_boxes_of.nd) egs_nil))) (fun p hp => ⟨_, true, rfl, ets_nil, fun _ => ckl_elt (ev_tup (ea_cons (ev_v 1) (ea_cons (ev_v 4) (ea_cons (ev_v 2) (ea_cons (ev_v 5) ea_nil))))), fun h => nomatch h⟩), fun h => nomatch h⟩)
      (by rw [e, List.length_map]; exact hl) sc_boxes_of.nd (blkOk_by (N := n_boxes_of) (sc := defScope s_boxes_of) (by decide +kernel)))) ?_)
    rw [e]
/-! slabs_of -/
def rSlabs : List Dt → Dt → Prop := fun ds d => ∃ (bs : List Box) (B : List Int), bs.length ≤ 1000 ∧ B.length < 64 ∧ (∀ k ∈ bxs bs, k ∈ B) ∧ ds = [.lst (bs.map dBox)] ∧ d = dForm (slabsOf bs)
theorem flat_bxs (f : List Box) : (f.flatMap fun s => [Dt.int s.1, Dt.int s.2.2.1]).map asI = bxs f := by
  rw [List.map_flatMap]; rfl
theorem c_slabs_of {f : Addr} {fd : FuncData} (F : Fun K "slabs_of" "slabs_of" s_slabs_of f fd) (hm : mg "slabs_of" = some (.ref f)) (B : NB mg) (cM : CalD P w K mg base C 1 "merged" rMerged) (cT : CalD P w K mg base C 1 "tidy" rTidy) : CalD P w K mg base C 2 "slabs_of" rSlabs :=
  calD F sc_slabs_of hm (fun _ _ _ _ _ _ us hl => match us, hl with | [_], _ => rfl) (by rintro ds d ⟨bs, Bs, _, _, _, rfl, _⟩; rfl) fun cdv A outer s H E ds d hr h => by
    obtain ⟨bs, Bs, hl, hB, hk, rfl, rfl⟩ := h
    refine sds_cons (sd_set 1 (ev_new (en_sc (own := [("x1", 6), ("y1", 7), ("x2", 8), ("y2", 9), ("x", 10)]) (vs' := [10]) (xs := bs) (enc := dBox) (f := fun s => [Dt.int s.1, Dt.int s.2.2.1]) Bs (ei_lst (ev_v 0)) (eb_t (egs_cons (eb_n 6 sc_slabs_of.nd) (egs_cons (eb_n 7 sc_slabs_of.nd) (egs_cons (eb_n 8 sc_slabs_of.nd) (egs_cons (eb_n 9 sc_slabs_of.nd) egs_nil)))))
      (fun x hx => ⟨_, true, rfl, fun _ _ _ _ _ => ets_nil, fun _ _ _ _ _ _ => cks (xs := [x.1, x.2.2.1]) (enc := Dt.int) (f := fun n => [Dt.int n]) (vs' := []) (ei_tup (ev_tup (ea_cons (ev_v 6) (ea_cons (ev_v 8) ea_nil)))) (eg_n 10 sc_slabs_of.nd) (fun n hn => ⟨_, true, rfl, ets_nil, fun _ => cks_elt (ev_v 10), fun h => nomatch h⟩), fun h => nomatch h⟩)
      (by rw [flat2_len]; omega) hB (by rw [flat_bxs]; exact hk) (B.h _ (by decide)) sc_slabs_of.nd (blkOk_by (N := n_slabs_of) (sc := defScope s_slabs_of) (by decide +kernel)))) ?_ sc_slabs_of.nd)
    rw [flat_bxs]
    have hsz : (sortU (bxs bs)).length ≤ 63 := Nat.le_trans (sortU_len hk) (by omega)
    refine sds_cons (sd_setN 2 (en_lst ea_nil) (fun p => ?_) sc_slabs_of.nd)
    refine sds_cons (sd_forS (ei_adj 1 rfl (B.h _ (by decide))) (eg_t (egs_cons (eg_n 3 sc_slabs_of.nd) (egs_cons (eg_n 4 sc_slabs_of.nd) egs_nil)))
      (fun pre => [some (.lst (bs.map dBox)), none, some (.ref p), none, none, none, none, none, none, none, none]) (fun pre => [(p, .lst ((pre.map fun q => (q.1, q.2, merged (pairsAt bs q.1))).map dSlab))]) (by repeat (first | exact Le.nil | apply Le.some | apply Le.none)) rfl (fun pre x post hx => ⟨_, rfl, ?_⟩) ?_)
    · have hpl := pre_len hx
      rw [adj_len] at hpl
      refine sds_cons (sd_set 5 (d := dSpans (merged (pairsAt bs x.1))) (ev_call cM hr (ea_cons (ev_new (en_lc1f (own := [("x1", 6), ("y1", 7), ("x2", 8), ("y2", 9)]) (xs := bs) (enc := dBox) (p := fun c => decide (c.1 ≤ x.1 ∧ x.1 < c.2.2.1)) (f := fun c => dPr (c.2.1, c.2.2.2)) (ei_lst (ev_v 0)) (eb_t (egs_cons (eb_n 6 sc_slabs_of.nd) (egs_cons (eb_n 7 sc_slabs_of.nd) (egs_cons (eb_n 8 sc_slabs_of.nd) (egs_cons (eb_n 9 sc_slabs_of.nd) egs_nil)))))
        (fun c hc => ⟨_, rfl, fun _ _ _ _ _ => et_chain (ev_v 6) (ev_v 3) (ev_v 8), fun _ _ _ _ _ _ => ev_tup (ea_cons (ev_v 7) (ea_cons (ev_v 9) ea_nil))⟩) (by omega) sc_slabs_of.nd (blkOk_by (N := n_slabs_of) (sc := defScope s_slabs_of) (by decide +kernel)))) ea_nil) ⟨pairsAt bs x.1, ?_, ?_, rfl⟩) ?_ sc_slabs_of.nd)
      · unfold pairsAt
        rw [List.length_map]
        exact Nat.le_trans (List.length_filter_le _ _) hl
      · unfold pairsAt
        rw [List.map_map]
        rfl
      · refine sds_cons (sd_app 0 (ev_v 2) (ev_tup (ea_cons (ev_v 3) (ea_cons (ev_v 4) (ea_cons (ev_v 5) ea_nil)))) rfl (by rw [List.length_map, List.length_map]; omega) (sds_nil (nx_of ?_)))
        rw [List.map_append, List.map_append]
        rfl
    · refine sds_freeze 0 2 ?_
      refine sds_cons (sd_ret (ev_call cT hr (ea_cons (ev_v 2) ea_nil) ⟨rawSlabs bs, ?_, rfl, rfl⟩) rfl)
      unfold rawSlabs
      rw [List.length_map, adj_len]
      omega
end
end BR
/-! BrW3: mixed forms, frames. -/
namespace BR
open PySem PySem.Spec PyProof.Rows L2
section
variable {P : Program} {w : World} {K : PySem.W.Frag} {mg : Str → Option Value} {base : Heap} {C : Addr}
/-! mixed -/
/-- the spans of a form are few, their ends among few -/
def Few (f : Form) (BY : List Int) : Prop := ∀ s ∈ f, s.2.2.length ≤ 100 ∧ ∀ k ∈ endsOf s.2.2, k ∈ BY
theorem few_at {f : Form} {BY : List Int} (h : Few f BY) (n : Int) : (spansAt f n).length ≤ 100 ∧ ∀ k ∈ endsOf (spansAt f n), k ∈ BY := by
  induction f with
  | nil => exact ⟨by simp [spansAt], by simp [spansAt, endsOf]⟩
  | cons s f ih =>
    unfold spansAt
    split
    · exact h s List.mem_cons_self
    · exact ih fun t ht => h t (List.mem_cons_of_mem _ ht)
theorem ends_app (a b : List Pr) : endsOf (a ++ b) = endsOf a ++ endsOf b := List.flatMap_append
def rMixed : List Dt → Dt → Prop := fun ds d => ∃ (f g : Form) (wd : Wd) (BX BY : List Int), f.length + g.length ≤ 300 ∧ BX.length < 64 ∧ (∀ k ∈ xsOf (f ++ g), k ∈ BX) ∧ BY.length < 64 ∧ Few f BY ∧ Few g BY ∧ ds = [dForm f, dForm g, .str (wdS wd)] ∧ d = dForm (mixed f g wd)
theorem c_mixed {f : Addr} {fd : FuncData} (F : Fun K "mixed" "mixed" s_mixed f fd) (hm : mg "mixed" = some (.ref f)) (B : NB mg) (cC : CalD P w K mg base C 1 "cuts_of" rCuts) (cS : CalD P w K mg base C 1 "spans_at" rSpansAt) (cB : CalD P w K mg base C 2 "combined" rComb) (cT : CalD P w K mg base C 1 "tidy" rTidy) : CalD P w K mg base C 3 "mixed" rMixed :=
  calD F sc_mixed hm (fun _ _ _ _ _ _ us hl => match us, hl with | [_, _, _], _ => rfl) (by rintro ds d ⟨f, g, wd, BX, BY, _, _, _, _, _, _, rfl, _⟩; rfl) fun cdv A outer s H E ds d hr h => by
    obtain ⟨f, g, wd, BX, BY, hl, hX, hk, hY, h1, h2, rfl, rfl⟩ := h
    have hcat : ∀ {X : Cx} {ρ : DE} {M : Mem} {e : Expr}, Ev X C ρ M e (.tup (f.map dSlab ++ g.map dSlab)) → Ev X C ρ M e (dForm (f ++ g)) := fun {X ρ M e} h => by unfold dForm; rw [List.map_append]; exact h
    have hsz : (cutsOf (f ++ g)).length ≤ 63 := Nat.le_trans (sortU_len hk) (by omega)
    refine sds_cons (sd_set 3 (ev_call cC hr (ea_cons (hcat (ev_catT (ev_v 0) (ev_v 1) (by rw [List.length_map, List.length_map]; omega))) ea_nil) ⟨f ++ g, BX, by rw [List.length_append]; omega, hX, hk, rfl, rfl⟩) ?_ sc_mixed.nd)
    refine sds_cons (sd_setN 4 (en_lst ea_nil) (fun p => ?_) sc_mixed.nd)
    refine sds_cons (sd_forS (ei_adj 3 rfl (B.h _ (by decide))) (eg_t (egs_cons (eg_n 5 sc_mixed.nd) (egs_cons (eg_n 6 sc_mixed.nd) egs_nil)))
      (fun pre => [some (dForm f), some (dForm g), some (.str (wdS wd)), none, some (.ref p), none, none]) (fun pre => [(p, .lst ((pre.map fun q => (q.1, q.2, combined (spansAt f q.1) (spansAt g q.1) wd)).map dSlab))]) (by repeat (first | exact Le.nil | apply Le.some | apply Le.none)) rfl (fun pre x post hx => ⟨_, rfl, ?_⟩) ?_)
    · have hpl := pre_len hx
      rw [adj_len] at hpl
      have q1 := few_at h1 x.1
      have q2 := few_at h2 x.1
      refine sds_cons (sd_app 0 (ev_v 4) (ev_tup (ea_cons (ev_v 5) (ea_cons (ev_v 6) (ea_cons (ev_call cB hr (ea_cons (ev_call cS hr (ea_cons (ev_v 0) (ea_cons (ev_v 5) ea_nil)) ⟨f, x.1, rfl, rfl⟩) (ea_cons (ev_call cS hr (ea_cons (ev_v 1) (ea_cons (ev_v 5) ea_nil)) ⟨g, x.1, rfl, rfl⟩) (ea_cons (ev_v 2) ea_nil))) ⟨_, _, wd, BY, by omega, hY, ?_, rfl, rfl⟩) ea_nil)))) rfl (by rw [List.length_map, List.length_map]; omega) (sds_nil (nx_of ?_)))
      · intro k hk
        rw [ends_app, List.mem_append] at hk
        rcases hk with hk | hk
        · exact q1.2 k hk
        · exact q2.2 k hk
      · rw [List.map_append, List.map_append]
        rfl
    · refine sds_freeze 0 4 ?_
      refine sds_cons (sd_ret (ev_call cT hr (ea_cons (ev_v 4) ea_nil) ⟨rawMixed f g wd, ?_, rfl, rfl⟩) rfl)
      unfold rawMixed
      rw [List.length_map, adj_len]
      omega
/-! frame_of -/
theorem atI_head {α β : Type} {f : α → β} {l : α} {xs : List α} : atI ((l :: xs).map f) 0 = some (f l) := by
  unfold atI ixN
  rw [if_pos (Int.le_refl 0), if_pos (by rw [List.length_map, List.length_cons]; omega)]
  rfl
def rFrame : List Dt → Dt → Prop := fun ds d => ∃ f : Form, f ≠ [] ∧ f.length ≤ 1000 ∧ (∀ s ∈ f, s.2.2 ≠ []) ∧ ds = [dForm f] ∧ d = dBox (frameOf f)
theorem c_frame_of {f : Addr} {fd : FuncData} (F : Fun K "frame_of" "frame_of" s_frame_of f fd) (hm : mg "frame_of" = some (.ref f)) (B : NB mg) : CalD P w K mg base C 1 "frame_of" rFrame :=
  calD F sc_frame_of hm (fun _ _ _ _ _ _ us hl => match us, hl with | [_], _ => rfl) (by rintro ds d ⟨f, _, _, _, rfl, _⟩; rfl) fun cdv A outer s H E ds d hr h => by
    obtain ⟨f, hf, hl, hs, rfl, rfl⟩ := h
    refine sds_cons (sd_if (et_eqX (x := f) (y := []) cpr_form hr (ev_v 0) (ev_tup ea_nil)) (fun h => absurd (of_decide_eq_true h) hf) fun _ => sds_nil ?_)
    refine sds_cons (sd_set 1 (ev_callB (cr_min rfl) (cd_min (xs := f) (p := headY) hf) (ea_cons (ev_new (en_lc1 (own := [("x1", 3), ("x2", 4), ("spans", 5)]) (xs := f) (enc := dSlab) (f := fun s => .int (headY s)) (ei_tup (ev_v 0)) (eb_t (egs_cons (eb_n 3 sc_frame_of.nd) (egs_cons (eb_n 4 sc_frame_of.nd) (egs_cons (eb_n 5 sc_frame_of.nd) egs_nil))))
      (fun x hx => ⟨_, rfl, fun _ _ _ _ _ => ?_⟩) (by omega) sc_frame_of.nd (blkOk_by (N := n_frame_of) (sc := defScope s_frame_of) (by decide +kernel)))) ea_nil) (B.h _ (by decide))) ?_ sc_frame_of.nd)
    · obtain ⟨x1, x2, ss⟩ := x
      have hne := hs _ hx
      cases ss with
      | nil => exact absurd rfl hne
      | cons q r => exact ev_ixT (ev_ixT (ev_v 5) ev_int (atI_head (f := dPr))) ev_int
    refine sds_cons (sd_set 2 (ev_callB (cr_max rfl) (cd_max (xs := f) (p := lastY) hf) (ea_cons (ev_new (en_lc1 (own := [("x1", 3), ("x2", 4), ("spans", 5)]) (xs := f) (enc := dSlab) (f := fun s => .int (lastY s)) (ei_tup (ev_v 0)) (eb_t (egs_cons (eb_n 3 sc_frame_of.nd) (egs_cons (eb_n 4 sc_frame_of.nd) (egs_cons (eb_n 5 sc_frame_of.nd) egs_nil))))
      (fun x hx => ⟨_, rfl, fun _ _ _ _ _ => ?_⟩) (by omega) sc_frame_of.nd (blkOk_by (N := n_frame_of) (sc := defScope s_frame_of) (by decide +kernel)))) ea_nil) (B.h _ (by decide))) ?_ sc_frame_of.nd)
    · obtain ⟨x1, x2, ss⟩ := x
      have hne := hs _ hx
      have e : ∃ q, ss.getLast? = some q := ⟨_, List.getLast?_eq_some_getLast hne⟩
      obtain ⟨q, hq⟩ := e
      have el : lastY (x1, x2, ss) = q.2 := by simp [lastY, hq]
      show Ev _ C _ _ _ (.int (lastY (x1, x2, ss)))
      rw [el]
      exact ev_ixT (ev_ixT (ev_v 5) (ev_neg ev_int) (atI_last (f := dPr) hq)) ev_int
    obtain ⟨q, hq⟩ : ∃ q, f.getLast? = some q := ⟨_, List.getLast?_eq_some_getLast hf⟩
    cases f with
    | nil => exact absurd rfl hf
    | cons s0 r =>
      refine sds_cons (sd_ret (ev_tup (ea_cons (ev_ixT (ev_ixT (ev_v 0) ev_int (atI_head (f := dSlab))) ev_int) (ea_cons (ev_v 1) (ea_cons (ev_ixT (ev_ixT (ev_v 0) (ev_neg ev_int) (atI_last (f := dSlab) hq)) ev_int) (ea_cons (ev_v 2) ea_nil))))) ?_)
      show Dt.tup [.int s0.1, _, .int q.2.1, _] = dBox (frameOf (s0 :: r))
      simp only [dBox, frameOf, headX, lastX, hq]
/-! wide_frame -/
def rWide : List Dt → Dt → Prop := fun ds d => ∃ f : Form, f ≠ [] ∧ f.length ≤ 1000 ∧ (∀ s ∈ f, s.2.2 ≠ []) ∧ ds = [dForm f] ∧ d = dBox (wideFrame f)
theorem c_wide_frame {f : Addr} {fd : FuncData} (F : Fun K "wide_frame" "wide_frame" s_wide_frame f fd) (hm : mg "wide_frame" = some (.ref f)) (cF : CalD P w K mg base C 1 "frame_of" rFrame) : CalD P w K mg base C 2 "wide_frame" rWide :=
  calD F sc_wide_frame hm (fun _ _ _ _ _ _ us hl => match us, hl with | [_], _ => rfl) (by rintro ds d ⟨f, _, _, _, rfl, _⟩; rfl) fun cdv A outer s H E ds d hr h => by
    obtain ⟨f, hf, hl, hs, rfl, rfl⟩ := h
    exact sds_cons (sd_asg (ev_call cF hr (ea_cons (ev_v 0) ea_nil) ⟨f, hf, hl, hs, rfl, rfl⟩) (eg_t (egs_cons (eg_n 1 sc_wide_frame.nd) (egs_cons (eg_n 2 sc_wide_frame.nd) (egs_cons (eg_n 3 sc_wide_frame.nd) (egs_cons (eg_n 4 sc_wide_frame.nd) egs_nil))))) rfl
      (sds_cons (sd_ret (ev_tup (ea_cons (ev_sub (ev_v 1) ev_int) (ea_cons (ev_sub (ev_v 2) ev_int) (ea_cons (ev_add (ev_v 3) ev_int) (ea_cons (ev_add (ev_v 4) ev_int) ea_nil))))) rfl)))
end
end BR
/-! BrW4: regions. -/
namespace BR
open PySem PySem.Spec PyProof.Rows L2
theorem EvT.cast' {X : Cx} {C : Addr} {ρ : DE} {M : Mem} {e : Expr} {k k' : Bool} (h : EvT X C ρ M e k) (z : k = k') : EvT X C ρ M e k' := z ▸ h
theorem Ev.cast {X : Cx} {C : Addr} {ρ : DE} {M : Mem} {e : Expr} {k k' : Dt} (h : Ev X C ρ M e k) (z : k = k') : Ev X C ρ M e k' := z ▸ h
section
variable {P : Program} {w : World} {K : PySem.W.Frag} {mg : Str → Option Value} {base : Heap} {C : Addr}
/-! is_integer, are_integers, is_square, is_box -/
def rIsInt : List Dt → Dt → Prop := fun ds d => ∃ i : Int, ds = [.int i] ∧ d = .bl true
theorem c_is_integer {f : Addr} {fd : FuncData} (F : Fun K "is_integer" "is_integer" s_is_integer f fd) (hm : mg "is_integer" = some (.ref f)) (B : NB mg) (hb : mg "bool" = none) : CalD P w K mg base C 1 "is_integer" rIsInt :=
  calD F sc_is_integer hm (fun _ _ _ _ _ _ us hl => match us, hl with | [_], _ => rfl) (by rintro ds d ⟨i, rfl, _⟩; rfl) fun cdv A outer s H E ds d hr h => by
    obtain ⟨i, rfl, rfl⟩ := h
    exact sds_cons (sd_ret (ev_and (ev_callB call_isi (cd_isi (c := "int") ty_int (b := true) (by decide +kernel)) (ea_cons (ev_v 0) (ea_cons (ev_ty (T := "int") (B.h _ (by decide))) ea_nil)) (B.h _ (by decide))) fun _ => ev_one (ev_not (ev_callB call_isi (cd_isi (c := "bool") ty_int (b := false) (by decide +kernel)) (ea_cons (ev_v 0) (ea_cons (ev_ty (T := "bool") hb) ea_nil)) (B.h _ (by decide))))) rfl)
def rAreInt : List Dt → Dt → Prop := fun ds d => ∃ (ns : List Int) (k : Int), ns.length ≤ 1000 ∧ ds = [.tup (ns.map Dt.int), .int k] ∧ d = .bl (decide ((ns.length : Int) = k))
theorem c_are_integers {f : Addr} {fd : FuncData} (F : Fun K "are_integers" "are_integers" s_are_integers f fd) (hm : mg "are_integers" = some (.ref f)) (B : NB mg) (cI : CalD P w K mg base C 1 "is_integer" rIsInt) : CalD P w K mg base C 2 "are_integers" rAreInt :=
  calD F sc_are_integers hm (fun _ _ _ _ _ _ us hl => match us, hl with | [_, _], _ => rfl) (by rintro ds d ⟨ns, k, _, rfl, _⟩; rfl) fun cdv A outer s H E ds d hr h => by
    obtain ⟨ns, k, hl, rfl, rfl⟩ := h
    refine sds_cons (sd_ret (ev_and (ev_callB call_isi (cd_isi (c := "tuple") ty_tup (b := true) (by decide +kernel)) (ea_cons (ev_v 0) (ea_cons (ev_ty (T := "tuple") (B.h _ (by decide))) ea_nil)) (B.h _ (by decide))) fun _ => ev_and (ev_eqI (ev_callB call_len_seq cd_lenT (ea_cons (ev_v 0) ea_nil) (B.h _ (by decide))) (ev_v 1)) fun _ => ev_one (ev_callB (cr_all rfl) (cd_all (xs := ns) (p := fun _ => true)) (ea_cons (ev_new (en_lc1 (own := [("number", 2)]) (xs := ns) (enc := Dt.int) (f := fun _ => .bl true) (ei_tup (ev_v 0)) (eb_n 2 sc_are_integers.nd)
      (fun x hx => ⟨_, rfl, fun _ _ _ _ _ => ev_call cI hr (ea_cons (ev_v 2) ea_nil) ⟨_, rfl, rfl⟩⟩) (by omega) sc_are_integers.nd (blkOk_by (N := n_are_integers) (sc := defScope s_are_integers) (by decide +kernel)))) ea_nil) (B.h _ (by decide)))) ?_)
    simp
def rIsSq : List Dt → Dt → Prop := fun ds d => ∃ p : Pr, ds = [dPr p] ∧ d = .bl true
theorem c_is_square {f : Addr} {fd : FuncData} (F : Fun K "is_square" "is_square" s_is_square f fd) (hm : mg "is_square" = some (.ref f)) (cA : CalD P w K mg base C 2 "are_integers" rAreInt) : CalD P w K mg base C 3 "is_square" rIsSq :=
  calD F sc_is_square hm (fun _ _ _ _ _ _ us hl => match us, hl with | [_], _ => rfl) (by rintro ds d ⟨p, rfl, _⟩; rfl) fun cdv A outer s H E ds d hr h => by
    obtain ⟨p, rfl, rfl⟩ := h
    exact sds_cons (sd_ret (ev_call cA hr (ea_cons (ev_v 0) (ea_cons ev_int ea_nil)) ⟨[p.1, p.2], 2, by simp, rfl, rfl⟩) rfl)
def okBox (b : Box) : Prop := b.1 < b.2.2.1 ∧ b.2.1 < b.2.2.2
def rIsBox : List Dt → Dt → Prop := fun ds d => ∃ b : Box, okBox b ∧ ds = [dBox b] ∧ d = .bl true
theorem c_is_box {f : Addr} {fd : FuncData} (F : Fun K "is_box" "is_box" s_is_box f fd) (hm : mg "is_box" = some (.ref f)) (cA : CalD P w K mg base C 2 "are_integers" rAreInt) : CalD P w K mg base C 3 "is_box" rIsBox :=
  calD F sc_is_box hm (fun _ _ _ _ _ _ us hl => match us, hl with | [_], _ => rfl) (by rintro ds d ⟨p, _, rfl, _⟩; rfl) fun cdv A outer s H E ds d hr h => by
    obtain ⟨b, hb, rfl, rfl⟩ := h
    refine sds_cons (sd_ret (ev_and (ev_call cA hr (ea_cons (ev_v 0) (ea_cons ev_int ea_nil)) ⟨[b.1, b.2.1, b.2.2.1, b.2.2.2], 4, by simp, rfl, rfl⟩) fun _ => ev_and (ev_lt (ev_ixT (ev_v 0) ev_int) (ev_ixT (ev_v 0) ev_int)) fun _ => ev_one (ev_lt (ev_ixT (ev_v 0) ev_int) (ev_ixT (ev_v 0) ev_int))) ?_)
    simp [hb.1, hb.2]
/-! checks -/
def rCkSq : List Dt → Dt → Prop := fun ds d => ∃ p : Pr, ds = [dPr p] ∧ d = .non
theorem c_check_square {f : Addr} {fd : FuncData} (F : Fun K "check_square" "check_square" s_check_square f fd) (hm : mg "check_square" = some (.ref f)) (cS : CalD P w K mg base C 3 "is_square" rIsSq) : CalD P w K mg base C 4 "check_square" rCkSq :=
  calD F sc_check_square hm (fun _ _ _ _ _ _ us hl => match us, hl with | [_], _ => rfl) (by rintro ds d ⟨p, rfl, _⟩; rfl) fun cdv A outer s H E ds d hr h => by
    obtain ⟨p, rfl, rfl⟩ := h
    exact sds_cons (sd_if (et_not (et_val (ev_call cS hr (ea_cons (ev_v 0) ea_nil) ⟨p, rfl, rfl⟩))) (fun h => nomatch h) fun _ => sds_nil (sds_nil rfl))
def rCkBox : List Dt → Dt → Prop := fun ds d => ∃ b : Box, okBox b ∧ ds = [dBox b] ∧ d = .non
theorem c_check_box {f : Addr} {fd : FuncData} (F : Fun K "check_box" "check_box" s_check_box f fd) (hm : mg "check_box" = some (.ref f)) (cS : CalD P w K mg base C 3 "is_box" rIsBox) : CalD P w K mg base C 4 "check_box" rCkBox :=
  calD F sc_check_box hm (fun _ _ _ _ _ _ us hl => match us, hl with | [_], _ => rfl) (by rintro ds d ⟨p, _, rfl, _⟩; rfl) fun cdv A outer s H E ds d hr h => by
    obtain ⟨b, hb, rfl, rfl⟩ := h
    exact sds_cons (sd_if (et_not (et_val (ev_call cS hr (ea_cons (ev_v 0) ea_nil) ⟨b, hb, rfl, rfl⟩))) (fun h => nomatch h) fun _ => sds_nil (sds_nil rfl))
def rCkReg : List Dt → Dt → Prop := fun ds d => ∃ (f : Dt) (o : Bool), ds = [.reg f o] ∧ d = .non
theorem c_check_region {f : Addr} {fd : FuncData} (F : Fun K "check_region" "check_region" s_check_region f fd) (hm : mg "check_region" = some (.ref f)) (B : NB mg) (R : RCls K C) (hR : mg "Region" = some (.ref C)) : CalD P w K mg base C 1 "check_region" rCkReg :=
  calD F sc_check_region hm (fun _ _ _ _ _ _ us hl => match us, hl with | [_], _ => rfl) (by rintro ds d ⟨p, _, rfl, _⟩; rfl) fun cdv A outer s H E ds d hr h => by
    obtain ⟨g, o, rfl, rfl⟩ := h
    exact sds_cons (sd_if (et_not (et_val (ev_callB call_isi (cd_isiR R) (ea_cons (ev_v 0) (ea_cons (ev_gref hR) ea_nil)) (B.h _ (by decide))))) (fun h => nomatch h) fun _ => sds_nil (sds_nil rfl))
def rCkFlag : List Dt → Dt → Prop := fun ds d => ∃ b : Bool, ds = [.bl b] ∧ d = .non
theorem c_check_flag {f : Addr} {fd : FuncData} (F : Fun K "check_flag" "check_flag" s_check_flag f fd) (hm : mg "check_flag" = some (.ref f)) (B : NB mg) (hb : mg "bool" = none) : CalD P w K mg base C 1 "check_flag" rCkFlag :=
  calD F sc_check_flag hm (fun _ _ _ _ _ _ us hl => match us, hl with | [_], _ => rfl) (by rintro ds d ⟨p, rfl, _⟩; rfl) fun cdv A outer s H E ds d hr h => by
    obtain ⟨b, rfl, rfl⟩ := h
    exact sds_cons (sd_if (et_not (et_val (ev_callB call_isi (cd_isi (c := "bool") ty_bl (b := true) (by decide +kernel)) (ea_cons (ev_v 0) (ea_cons (ev_ty (T := "bool") hb) ea_nil)) (B.h _ (by decide))))) (fun h => nomatch h) fun _ => sds_nil (sds_nil rfl))
/-! united, turned_out -/
/-- two forms that may be mixed -/
structure MixOk (f g : Form) : Prop where
  ex : ∃ BX BY : List Int, f.length + g.length ≤ 300 ∧ BX.length < 64 ∧ (∀ k ∈ xsOf (f ++ g), k ∈ BX) ∧ BY.length < 64 ∧ Few f BY ∧ Few g BY
theorem MixOk.r {f g : Form} (h : MixOk f g) (wd : Wd) : rMixed [dForm f, dForm g, .str (wdS wd)] (dForm (mixed f g wd)) := by
  obtain ⟨BX, BY, h1, h2, h3, h4, h5, h6⟩ := h.ex
  exact ⟨f, g, wd, BX, BY, h1, h2, h3, h4, h5, h6, rfl, rfl⟩
def rUnited : List Dt → Dt → Prop := fun ds d => ∃ f g : Form, MixOk f g ∧ ds = [.reg (dForm f) false, .reg (dForm g) false] ∧ d = .reg (dForm (mixed f g .or)) false
theorem c_united {f : Addr} {fd : FuncData} (F : Fun K "united" "united" s_united f fd) (hm : mg "united" = some (.ref f)) (R : RCls K C) (cK : MkD P w K mg base C) (cM : CalD P w K mg base C 3 "mixed" rMixed) : CalD P w K mg base C 4 "united" rUnited :=
  calD F sc_united hm (fun _ _ _ _ _ _ us hl => match us, hl with | [_, _], _ => rfl) (by rintro ds d ⟨f, g, _, rfl, _⟩; rfl) fun cdv A outer s H E ds d hr h => by
    obtain ⟨f, g, hmx, rfl, rfl⟩ := h
    refine sds_cons (sd_if (EvW.t (ew_and (k1 := false) (k2 := false) (et_val (ev_out R (ev_v 0))) fun h => by cases h)) (fun h => by cases h) fun _ => sds_nil ?_)
    refine sds_cons (sd_if (et_val (ev_out (o := false) R (ev_v 0))) (fun h => by cases h) fun _ => sds_nil ?_)
    refine sds_cons (sd_if (et_val (ev_out (o := false) R (ev_v 1))) (fun h => by cases h) fun _ => sds_nil ?_)
    exact sds_cons (sd_ret (ev_mk cK hr (ea_cons (ev_call cM hr (ea_cons (ev_form R (ev_v 0)) (ea_cons (ev_form R (ev_v 1)) (ea_cons ev_str ea_nil))) (hmx.r .or)) (ea_cons ev_bl ea_nil))) rfl)
def rTurned : List Dt → Dt → Prop := fun ds d => ∃ (f : Dt) (o : Bool), ds = [.reg f o] ∧ d = .reg f (!o)
theorem c_turned_out {f : Addr} {fd : FuncData} (F : Fun K "turned_out" "turned_out" s_turned_out f fd) (hm : mg "turned_out" = some (.ref f)) (R : RCls K C) (cK : MkD P w K mg base C) : CalD P w K mg base C 3 "turned_out" rTurned :=
  calD F sc_turned_out hm (fun _ _ _ _ _ _ us hl => match us, hl with | [_], _ => rfl) (by rintro ds d ⟨f, g, rfl, _⟩; rfl) fun cdv A outer s H E ds d hr h => by
    obtain ⟨f, o, rfl, rfl⟩ := h
    exact sds_cons (sd_ret (ev_mk cK hr (ea_cons (ev_form R (ev_v 0)) (ea_cons (ev_not (ev_out R (ev_v 0))) ea_nil))) rfl)
/-! methods -/
theorem ownD_of {k : Nat} {m qual : Str} {st : Stmt} {f : Addr} {fd : FuncData} {N ps : List Str} {R : List Dt → Dt → Prop} (F : Fun K m qual st f fd) (S : FnScope N ps (defScope st)) (hfind : PySem.W.findIn K (.ref C) m = some (some (.ref f))) (hfn : PySem.W.isFn K (.ref f) = true)
    (hb : ∀ (kV doc pm : Value) (an : Option Addr) (cdv ct : Value) (us : List Value), us.length = ps.length → bindArgs (PySem.W.fnOf m qual (defArgs st) (defBody st) (defScope st) .none kV doc pm an cdv ct) ⟨us, []⟩ = pure (ps.zip us))
    (ok : FnOk P w K mg base CX0 k f fd ps (spD C R)) : OwnD P w K mg base C k m R :=
  ⟨f, hfind, hfn, by
    have := ok.raw (F.binds hb) (.nil)
    refine this.imp fun vs H Q E h => ?_
    rw [List.append_nil]
    exact h⟩
theorem o_or {q : Str} {f : Addr} {fd : FuncData} (F : Fun K "__or__" q s_R_or f fd) (h1 : PySem.W.findIn K (.ref C) "__or__" = some (some (.ref f))) (h2 : PySem.W.isFn K (.ref f) = true) (cC : CalD P w K mg base C 1 "check_region" rCkReg) (cU : CalD P w K mg base C 4 "united" rUnited) : OwnD P w K mg base C 5 "__or__" rUnited :=
  ownD_of F sc_R_or h1 h2 (fun _ _ _ _ _ _ us hl => match us, hl with | [_, _], _ => rfl) (okD F sc_R_or (by rintro ds d ⟨f, g, _, rfl, _⟩; rfl) fun cdv A outer s H E ds d hr h => by
    obtain ⟨f, g, hmx, rfl, rfl⟩ := h
    exact sds_cons (sd_expr (ev_call cC hr (ea_cons (ev_v 1) ea_nil) ⟨_, _, rfl, rfl⟩) (sds_cons (sd_ret (ev_call cU hr (ea_cons (ev_v 0) (ea_cons (ev_v 1) ea_nil)) ⟨f, g, hmx, rfl, rfl⟩) rfl))))
theorem o_invert {q : Str} {f : Addr} {fd : FuncData} (F : Fun K "__invert__" q s_R_invert f fd) (h1 : PySem.W.findIn K (.ref C) "__invert__" = some (some (.ref f))) (h2 : PySem.W.isFn K (.ref f) = true) (cT : CalD P w K mg base C 3 "turned_out" rTurned) : OwnD P w K mg base C 4 "__invert__" rTurned :=
  ownD_of F sc_R_invert h1 h2 (fun _ _ _ _ _ _ us hl => match us, hl with | [_], _ => rfl) (okD F sc_R_invert (by rintro ds d ⟨f, g, rfl, _⟩; rfl) fun cdv A outer s H E ds d hr h => by
    obtain ⟨f, o, rfl, rfl⟩ := h
    exact sds_cons (sd_ret (ev_call cT hr (ea_cons (ev_v 0) ea_nil) ⟨f, o, rfl, rfl⟩) rfl))
/-- the region has the square -/
def hasSq (f : Form) (o : Bool) (p : Pr) : Bool := isCov (spansAt f p.1) p.2 != o
theorem bne_dec (a b : Bool) : (a != b) = !decide (a = b) := by cases a <;> cases b <;> rfl
def rHas : List Dt → Dt → Prop := fun ds d => ∃ (f : Form) (o : Bool) (p : Pr), (spansAt f p.1).length ≤ 1000 ∧ ds = [.reg (dForm f) o, dPr p] ∧ d = .bl (hasSq f o p)
theorem o_contains {q : Str} {f : Addr} {fd : FuncData} (F : Fun K "__contains__" q s_R_contains f fd) (h1 : PySem.W.findIn K (.ref C) "__contains__" = some (some (.ref f))) (h2 : PySem.W.isFn K (.ref f) = true) (R : RCls K C) (cS : CalD P w K mg base C 4 "check_square" rCkSq) (cC : CalD P w K mg base C 1 "is_covered" rCov) (cA : CalD P w K mg base C 1 "spans_at" rSpansAt) : OwnD P w K mg base C 5 "__contains__" rHas :=
  ownD_of F sc_R_contains h1 h2 (fun _ _ _ _ _ _ us hl => match us, hl with | [_, _], _ => rfl) (okD F sc_R_contains (by rintro ds d ⟨f, o, p, _, rfl, _⟩; rfl) fun cdv A outer s H E ds d hr h => by
    obtain ⟨f, o, p, hl, rfl, rfl⟩ := h
    exact sds_cons (sd_expr (ev_call cS hr (ea_cons (ev_v 1) ea_nil) ⟨p, rfl, rfl⟩) (sds_cons (sd_ret (ev_neB (ev_call cC hr (ea_cons (ev_call cA hr (ea_cons (ev_form R (ev_v 0)) (ea_cons (ev_ixT (ev_v 1) ev_int) ea_nil)) ⟨f, p.1, rfl, rfl⟩) (ea_cons (ev_ixT (ev_v 1) ev_int) ea_nil)) ⟨_, p.2, hl, rfl, rfl⟩) (ev_out R (ev_v 0))) (by rw [hasSq, bne_dec])))))
def rEqR : List Dt → Dt → Prop := fun ds d => ∃ (f g : Form) (o u : Bool), ds = [.reg (dForm f) o, .reg (dForm g) u] ∧ d = .bl (decide (f = g) && decide (o = u))
theorem o_eq {q : Str} {f : Addr} {fd : FuncData} (F : Fun K "__eq__" q s_R_eq f fd) (h1 : PySem.W.findIn K (.ref C) "__eq__" = some (some (.ref f))) (h2 : PySem.W.isFn K (.ref f) = true) (R : RCls K C) (B : NB mg) (hR : mg "Region" = some (.ref C)) : OwnD P w K mg base C 1 "__eq__" rEqR :=
  ownD_of F sc_R_eq h1 h2 (fun _ _ _ _ _ _ us hl => match us, hl with | [_, _], _ => rfl) (okD F sc_R_eq (by rintro ds d ⟨f, g, o, u, rfl, _⟩; rfl) fun cdv A outer s H E ds d hr h => by
    obtain ⟨f, g, o, u, rfl, rfl⟩ := h
    exact sds_cons (sd_if (et_not (et_val (ev_callB call_isi (cd_isiR R) (ea_cons (ev_v 1) (ea_cons (ev_gref hR) ea_nil)) (B.h _ (by decide))))) (fun h => nomatch h) fun _ => sds_nil (sds_cons (sd_ret (ev_and (ev_eqX cpr_form hr (ev_form R (ev_v 0)) (ev_form R (ev_v 1))) fun _ => ev_one (ev_eqB (ev_out R (ev_v 0)) (ev_out R (ev_v 1)))) rfl))))
end
end BR
/-! BrQ: Region.of(..), Region.empty(). -/
namespace BR
open PySem PySem.Spec PyProof.Rows L2
/-- C.m is a staticmethod: its record at p, its def at g -/
structure SMet (K : PySem.W.Frag) (C : Addr) (mc : Value) (m : Str) (p g : Addr) : Prop where
  at_ : PySem.W.findCls K (.ref C) mc m = some (.get (.builtin "staticmethod.__get__") (.ref p) .none (.ref C))
  rc : ∃ rest, PySem.W.recIn K p "staticmethod" = some (.ref g :: rest)
  kp : PySem.W.keepIn K (.ref g) = true
section
variable {X : Cx} {C p g : Addr} {mc : Value} {m : Str} {o : Expr} {apos pos : Pos} {ta : TE} {pl : Sem Bool} {k : Nat} {sp : Sp}
theorem pe_smeth0 (he : PE X o ta) (r : ClX.CRead X.K C mc) (c : SMet X.K C mc m p g) (F : FnR X.prog X.w X.K X.mg X.base CX0 k g sp) (hr : Room k X.A)
    (ht : eval (.Call (.Attribute o m apos) [] [] pos) X.env = (do
      let ov ← eval o X.env
      standAt apos.atName
      let (f, first) ← holding [ov] (getMethod ov m pl)
      callWith pos f first (backTo pos (starEach [] X.env)) (backToKw pos (keywordEach [] X.env))) := by rfl) :
    PE X (.Call (.Attribute o m apos) [] [] pos) (fun σ H Q => ta σ H fun x H1 => x = .ref C ∧ sp [] H1 Q E0) := by
  refine ⟨fun pins s σ H Q I h => ?_⟩
  refine PySem.W.methodCall_KW (pl := pl) (thn (he.run pins s σ H _ I h) fun u s1 ⟨x, H1, I1, rx, ex, q⟩ => ?_) ht
  subst ex
  obtain rfl : u = Value.ref C := rx
  obtain ⟨rest, hp⟩ := c.rc
  refine PySem.W.method_cls I1.kIn r.ga (PySem.W.cls_bind I1.kIn r.rd c.at_ (wpAny_call (PySem.W.sm_get (s := { s1 with toks := s1.toks + 1 }) I1.kIn hp (PySem.W.handed_on rfl ?_))))
  have I2 : Inv X pins σ H1 { s1 with toks := s1.toks + 1 } := I1.tok _
  exact PySem.W.callWith_K0 (first := []) I2.kIn c.kp (wpAny_call (run_fnR (us := []) (vs := []) F hr pass0 I2 .nil q))
end
/-! Region.of -/
section
variable {P : Program} {w : World} {K : PySem.W.Frag} {mg : Str → Option Value} {base : Heap} {C : Addr}
def rOf0 (C : Addr) : List Dt → Dt → Prop := fun ds d => ∃ b : Box, okBox b ∧ ds = [.ref C, .tup [dBox b]] ∧ d = .reg (dForm (slabsOf [b])) false
def rOf (C : Addr) : List Dt → Dt → Prop := fun ds d => ∃ b : Box, okBox b ∧ ds = [.ref C, dBox b] ∧ d = .reg (dForm (slabsOf [b])) false
theorem f_of {qn : Str} {f : Addr} {fd : FuncData} (F : Fun K "of" qn s_R_of f fd) (B : NB mg) (cK : MkD P w K mg base C) (cB : CalD P w K mg base C 4 "check_box" rCkBox) (cS : CalD P w K mg base C 2 "slabs_of" rSlabs) : FnR P w K mg base CX0 5 f (spD C (rOf C)) := by
  obtain ⟨oc, od, kV, doc, pm, an, cdv, ct, osl, rfl, lk, hcd⟩ := F.ex
  have main := StX.fn_star (CX := CX0) (P := P) (w := w) (mg := mg) (base := base) (k := 4) (ps := ["cls"]) (pv := "boxes") (sp := spD C (rOf0 C)) lk hcd sc_R_of StX.cxUp_none (fun us rest hl => StX.bind_star1 (p1 := "cls") (pv := "boxes") (B := fun us => bindArgs (PySem.W.fnOf "of" qn (defArgs s_R_of) (defBody s_R_of) (defScope s_R_of) .none kV doc pm an cdv ct) ⟨us, []⟩) (fun a => by first | rfl | kernel_rfl) (fun a r rs => by first | rfl | kernel_rfl) us rest hl) fun A outer s H vs Q E hr h => by
    obtain ⟨Fc, ds, d, e, r, h, q⟩ := h
    have body : SDs (cxOf CX0 P w K mg base n_R_of qn (defScope s_R_of) f cdv A outer s H E).nox C (defBody s_R_of) (en0 n_R_of ds) [] { nx := fun _ _ => d = .non, rt := fun d' _ => d' = d } := by
      obtain ⟨b, hb, rfl, rfl⟩ := h
      refine sds_cons (sd_forS (xs := [b]) (enc := dBox) (ei_tup (ev_v 1)) (eg_n 2 sc_R_of.nd) (fun _ => [some (.ref C), some (.tup [dBox b]), none]) (fun _ => []) (by repeat (first | exact Le.nil | apply Le.some | apply Le.none)) rfl (fun pre x post hx => ⟨_, rfl, ?_⟩) ?_)
      · have hxb : x = b := by
          have := hx ▸ (List.mem_append_right pre List.mem_cons_self : x ∈ pre ++ x :: post)
          simpa using this
        subst hxb
        exact sds_cons (sd_expr (ev_call cB hr (ea_cons (ev_v 2) ea_nil) ⟨x, hb, rfl, rfl⟩) (sds_nil (nx_of rfl)))
      · exact sds_cons (sd_ret (ev_mkL 0 cK hr (ea_cons (ev_call cS hr (ea_cons (ev_new (en_callTy call_list_of cn_listT (ea_cons (ev_v 1) ea_nil) (B.h _ (by decide)))) ea_nil) ⟨[b], [b.1, b.2.2.1], by simp, by simp, by simp [bxs], rfl, rfl⟩) (ea_cons ev_bl ea_nil))) rfl)
    refine ⟨_, PSs.nox body, Fc, H, Fc, ⟨.refl e, fun i p d hi => nomatch hi⟩, ⟨e, ?_, fun i d hi => en0_sl r hi, ⟨fun i p d hi => (nomatch hi), List.nodup_nil⟩⟩, ?_⟩
    · unfold L2.start en0
      rw [List.length_append, List.length_append, List.length_map, List.length_map, List.length_replicate, List.length_replicate, r.length]
    · refine ⟨fun ρ M σ F1 H1 hd b I => ?_, fun _ _ _ _ _ z => z.elim, fun _ _ _ _ _ z => z.elim, fun v d' M F1 H1 hd b m r' => ?_⟩
      · subst hd
        exact q .non F1 H1 b.x .non
      · subst hd
        exact q v F1 H1 b.x r'
  refine main.imp fun vs H Q E ⟨F, ds, d, e, r, ⟨b, hb, h1, h2⟩, q⟩ => ?_
  subst h1 h2
  obtain ⟨v, u, rfl, r1, r2⟩ := r.two
  refine ⟨[v], [u], rfl, rfl, (by decide : 1 ≤ sizeLine), fun p hp => ⟨upd F p (.tup [u]), _, _, (Ext.new e hp).fh, .cons (r1.to (same_new (e.free hp))) (.cons (.tup upd_same (.cons (r2.to (same_new (e.free hp))) .nil)) .nil), ⟨b, hb, rfl, rfl⟩, fun v' F' H' e' r' => q v' F' H' ((Ext.new e hp).trans e') r'⟩⟩
/-- what Region.of asks of the class -/
structure OfD (P : Program) (w : World) (K : PySem.W.Frag) (mg : Str → Option Value) (base : Heap) (C : Addr) : Prop where
  ex : ∃ (mc : Value) (p g : Addr), ClX.CRead K C mc ∧ ClX.CMet K C mc "of" p g ∧ FnR P w K mg base CX0 5 g (spD C (rOf C))
  mgc : mg "Region" = some (.ref C)
structure EmptyD (P : Program) (w : World) (K : PySem.W.Frag) (mg : Str → Option Value) (base : Heap) (C : Addr) : Prop where
  ex : ∃ (mc : Value) (p g : Addr), ClX.CRead K C mc ∧ SMet K C mc "empty" p g ∧ FnR P w K mg base CX0 3 g (spD C fun ds d => ds = [] ∧ d = .reg (dForm []) false)
  mgc : mg "Region" = some (.ref C)
theorem f_empty {q : Str} {f : Addr} {fd : FuncData} (F : Fun K "empty" q s_R_empty f fd) (cK : MkD P w K mg base C) : FnR P w K mg base CX0 3 f (spD C fun ds d => ds = [] ∧ d = .reg (dForm []) false) := by
  have ok : FnOk P w K mg base CX0 3 f fd [] (spD C fun ds d => ds = [] ∧ d = .reg (dForm []) false) := okD F sc_R_empty (by rintro ds d ⟨rfl, _⟩; rfl) fun cdv A outer s H E ds d hr h => by
    obtain ⟨rfl, rfl⟩ := h
    exact sds_cons (sd_ret (ev_mk cK hr (ea_cons (ev_tup ea_nil) (ea_cons ev_bl ea_nil))) rfl)
  have := ok.raw (F.binds (fun _ _ _ _ _ _ us hl => match us, hl with | [], _ => rfl)) (.nil)
  refine this.imp fun vs H Q E h => ?_
  rw [List.append_nil]
  exact h
end
section
variable {X : Cx} {C : Addr} {ρ : DE} {M : Mem} {e : Expr} {b : Box} {p p1 p2 : Pos} {j : Nat}
theorem ev_of (c : OfD X.prog X.w X.K X.mg X.base C) (hr : Room j X.A) (ha : Ev X C ρ M e (dBox b)) (hb : okBox b) (hk : 5 ≤ j := by first | assumption | decide) (hg : Gl X "Region" := by rfl)
    (hst : starEach [e] X.env = (false, eval e X.env) :: starEach [] X.env := by rfl) (hpl : (backTo p2 (starEach [] X.env)).any (·.1) = false := by rfl) {pl : Sem Bool}
    (ht : eval (.Call (.Attribute (.Name "Region" p) "of" p1) [e] [] p2) X.env = (do
      let ov ← eval (.Name "Region" p) X.env
      standAt p1.atName
      let (f, first) ← holding [ov] (getMethod ov "of" pl)
      callWith p2 f first (backTo p2 (starEach [e] X.env)) (backToKw p2 (keywordEach [] X.env))) := by rfl) : Ev X C ρ M (.Call (.Attribute (.Name "Region" p) "of" p1) [e] [] p2) (.reg (dForm (slabsOf [b])) false) := by
  obtain ⟨mc, q, g, h1, h2, F⟩ := c.ex
  exact PE.imp (ClX.pe_cmeth (pe_glob (v := .ref C) hg c.mgc rfl (by decide)) h1 h2 F (hr.mono hk) pass0 (pa_cons ha pa_nil hst) hst hpl ht) fun σ H Q ⟨F, I, q⟩ => ⟨rfl, F, I, fun v F1 H1 e1 r1 => ⟨F1, _, _, e1.fh, .cons (.ref C) (.cons r1 .nil), ⟨b, hb, rfl, rfl⟩, fun v' F2 H2 e2 r2 => q v' F2 H2 (e1.trans e2) r2⟩⟩
theorem ev_empty (c : EmptyD X.prog X.w X.K X.mg X.base C) (hr : Room j X.A) (hk : 3 ≤ j := by first | assumption | decide) (hg : Gl X "Region" := by rfl) {pl : Sem Bool}
    (ht : eval (.Call (.Attribute (.Name "Region" p) "empty" p1) [] [] p2) X.env = (do
      let ov ← eval (.Name "Region" p) X.env
      standAt p1.atName
      let (f, first) ← holding [ov] (getMethod ov "empty" pl)
      callWith p2 f first (backTo p2 (starEach [] X.env)) (backToKw p2 (keywordEach [] X.env))) := by rfl) : Ev X C ρ M (.Call (.Attribute (.Name "Region" p) "empty" p1) [] [] p2) (.reg (dForm []) false) := by
  obtain ⟨mc, q, g, h1, h2, F⟩ := c.ex
  exact PE.imp (pe_smeth0 (pe_glob (v := .ref C) hg c.mgc rfl (by decide)) h1 h2 F (hr.mono hk) ht) fun σ H Q ⟨F, I, q⟩ => ⟨rfl, F, [], _, I.fh, .nil, ⟨rfl, rfl⟩, fun v' F2 H2 e2 r2 => q v' F2 H2 e2 r2⟩
end
end BR
/-! BrW5: moves. -/
namespace BR
open PySem PySem.Spec PyProof.Rows L2
theorem EvL.cast {X : Cx} {C : Addr} {ρ : DE} {M : Mem} {e : Expr} {ds ds' : List Dt} (h : EvL X C ρ M e ds) (z : ds = ds') : EvL X C ρ M e ds' := z ▸ h
structure SlabOk (bs : List Box) : Prop where
  ex : ∃ B : List Int, bs.length ≤ 1000 ∧ B.length < 64 ∧ ∀ k ∈ bxs bs, k ∈ B
theorem SlabOk.r {bs : List Box} (h : SlabOk bs) : rSlabs [.lst (bs.map dBox)] (dForm (slabsOf bs)) := by
  obtain ⟨B, h1, h2, h3⟩ := h.ex
  exact ⟨bs, B, h1, h2, h3, rfl, rfl⟩
def shiftB (p q : Int) (b : Box) : Box := (b.1 + p, b.2.1 + q, b.2.2.1 + p, b.2.2.2 + q)
def mirB (b : Box) : Box := (0 - b.2.2.1, b.2.1, 0 - b.1, b.2.2.2)
def turnB (b : Box) : Box := (0 - b.2.2.2, b.1, 0 - b.2.1, b.2.2.1)
section
variable {P : Program} {w : World} {K : PySem.W.Frag} {mg : Str → Option Value} {base : Heap} {C : Addr}
def rMoved : List Dt → Dt → Prop := fun ds d => ∃ (f : Dt) (o : Bool) (bs : List Box), SlabOk bs ∧ ds = [.reg f o, .lst (bs.map dBox)] ∧ d = .reg (dForm (slabsOf bs)) o
theorem c_moved {f : Addr} {fd : FuncData} (F : Fun K "moved" "moved" s_moved f fd) (hm : mg "moved" = some (.ref f)) (R : RCls K C) (cK : MkD P w K mg base C) (cS : CalD P w K mg base C 2 "slabs_of" rSlabs) : CalD P w K mg base C 3 "moved" rMoved :=
  calD F sc_moved hm (fun _ _ _ _ _ _ us hl => match us, hl with | [_, _], _ => rfl) (by rintro ds d ⟨f, o, bs, _, rfl, _⟩; rfl) fun cdv A outer s H E ds d hr h => by
    obtain ⟨f, o, bs, hb, rfl, rfl⟩ := h
    exact sds_cons (sd_ret (ev_mk cK hr (ea_cons (ev_call cS hr (ea_cons (ev_v 1) ea_nil) hb.r) (ea_cons (ev_out R (ev_v 0)) ea_nil))) rfl)
def rShifted : List Dt → Dt → Prop := fun ds d => ∃ (f : Form) (o : Bool) (p q : Int), SlabOk ((boxesOf f).map (shiftB p q)) ∧ ds = [.reg (dForm f) o, .int p, .int q] ∧ d = .reg (dForm (slabsOf ((boxesOf f).map (shiftB p q)))) o
theorem SlabOk.len {f : Form} {g : Box → Box} (h : SlabOk ((boxesOf f).map g)) : (boxesOf f).length ≤ 1000 := by
  obtain ⟨B, h1, _⟩ := h.ex
  rwa [List.length_map] at h1
theorem c_shifted {f : Addr} {fd : FuncData} (F : Fun K "shifted" "shifted" s_shifted f fd) (hm : mg "shifted" = some (.ref f)) (R : RCls K C) (cR : CalD P w K mg base C 1 "check_region" rCkReg) (cI : CalD P w K mg base C 1 "is_integer" rIsInt) (cB : CalD P w K mg base C 1 "boxes_of" rBoxes) (cM : CalD P w K mg base C 3 "moved" rMoved) : CalD P w K mg base C 4 "shifted" rShifted :=
  calD F sc_shifted hm (fun _ _ _ _ _ _ us hl => match us, hl with | [_, _, _], _ => rfl) (by rintro ds d ⟨f, o, p, q, _, rfl, _⟩; rfl) fun cdv A outer s H E ds d hr h => by
    obtain ⟨f, o, p, q, hb, rfl, rfl⟩ := h
    have hl := hb.len
    refine sds_cons (sd_expr (ev_call cR hr (ea_cons (ev_v 0) ea_nil) ⟨_, _, rfl, rfl⟩) ?_)
    refine sds_cons (sd_forS (xs := [p, q]) (enc := Dt.int) (ei_tup (ev_tup (ea_cons (ev_v 1) (ea_cons (ev_v 2) ea_nil)))) (eg_n 3 sc_shifted.nd) (fun _ => [some (.reg (dForm f) o), some (.int p), some (.int q), none, none, none, none, none, none]) (fun _ => []) (by repeat (first | exact Le.nil | apply Le.some | apply Le.none)) rfl (fun pre x post hx => ⟨_, rfl, ?_⟩) ?_)
    · exact sds_cons (sd_if (et_not (et_val (ev_call cI hr (ea_cons (ev_v 3) ea_nil) ⟨x, rfl, rfl⟩))) (fun h => nomatch h) fun _ => sds_nil (sds_nil (nx_of rfl)))
    · refine sds_cons (sd_setC 4 (EvL.cast (ds' := ((boxesOf f).map (shiftB p q)).map dBox) (el_lc1 (own := [("x1", 5), ("y1", 6), ("x2", 7), ("y2", 8)]) (xs := boxesOf f) (enc := dBox) (f := fun b => dBox (shiftB p q b)) (ei_lst (ev_call cB hr (ea_cons (ev_form R (ev_v 0)) ea_nil) ⟨f, by omega, rfl, rfl⟩)) (eb_t (egs_cons (eb_n 5 sc_shifted.nd) (egs_cons (eb_n 6 sc_shifted.nd) (egs_cons (eb_n 7 sc_shifted.nd) (egs_cons (eb_n 8 sc_shifted.nd) egs_nil)))))
        (fun b hb => ⟨_, rfl, fun _ _ _ _ _ => ev_tup (ea_cons (ev_add (ev_v 5) (ev_v 1)) (ea_cons (ev_add (ev_v 6) (ev_v 2)) (ea_cons (ev_add (ev_v 7) (ev_v 1)) (ea_cons (ev_add (ev_v 8) (ev_v 2)) ea_nil))))⟩) (by omega) sc_shifted.nd (blkOk_by (N := n_shifted) (sc := defScope s_shifted) (by decide +kernel))) (by rw [List.map_map]; rfl)) ?_)
      exact sds_cons (sd_ret (ev_call cM hr (ea_cons (ev_v 0) (ea_cons (ev_v 4) ea_nil)) ⟨_, _, _, hb, rfl, rfl⟩) rfl)
def rMir : List Dt → Dt → Prop := fun ds d => ∃ (f : Form) (o : Bool), SlabOk ((boxesOf f).map mirB) ∧ ds = [.reg (dForm f) o] ∧ d = .reg (dForm (slabsOf ((boxesOf f).map mirB))) o
theorem c_mirrored {f : Addr} {fd : FuncData} (F : Fun K "mirrored" "mirrored" s_mirrored f fd) (hm : mg "mirrored" = some (.ref f)) (R : RCls K C) (cR : CalD P w K mg base C 1 "check_region" rCkReg) (cB : CalD P w K mg base C 1 "boxes_of" rBoxes) (cM : CalD P w K mg base C 3 "moved" rMoved) : CalD P w K mg base C 4 "mirrored" rMir :=
  calD F sc_mirrored hm (fun _ _ _ _ _ _ us hl => match us, hl with | [_], _ => rfl) (by rintro ds d ⟨f, o, _, rfl, _⟩; rfl) fun cdv A outer s H E ds d hr h => by
    obtain ⟨f, o, hb, rfl, rfl⟩ := h
    have hl := hb.len
    refine sds_cons (sd_expr (ev_call cR hr (ea_cons (ev_v 0) ea_nil) ⟨_, _, rfl, rfl⟩) ?_)
    exact sds_cons (sd_ret (ev_call cM hr (ea_cons (ev_v 0) (ea_cons (Ev.cast (k' := .lst (((boxesOf f).map mirB).map dBox)) (ev_new (en_lc1 (own := [("x1", 1), ("y1", 2), ("x2", 3), ("y2", 4)]) (xs := boxesOf f) (enc := dBox) (f := fun b => dBox (mirB b)) (ei_lst (ev_call cB hr (ea_cons (ev_form R (ev_v 0)) ea_nil) ⟨f, by omega, rfl, rfl⟩)) (eb_t (egs_cons (eb_n 1 sc_mirrored.nd) (egs_cons (eb_n 2 sc_mirrored.nd) (egs_cons (eb_n 3 sc_mirrored.nd) (egs_cons (eb_n 4 sc_mirrored.nd) egs_nil)))))
        (fun b hb => ⟨_, rfl, fun _ _ _ _ _ => ev_tup (ea_cons (ev_sub ev_int (ev_v 3)) (ea_cons (ev_v 2) (ea_cons (ev_sub ev_int (ev_v 1)) (ea_cons (ev_v 4) ea_nil))))⟩) (by omega) sc_mirrored.nd (blkOk_by (N := n_mirrored) (sc := defScope s_mirrored) (by decide +kernel)))) (by rw [List.map_map]; rfl)) ea_nil)) ⟨_, _, _, hb, rfl, rfl⟩) rfl)
def rTurn : List Dt → Dt → Prop := fun ds d => ∃ (f : Form) (o : Bool), SlabOk ((boxesOf f).map turnB) ∧ ds = [.reg (dForm f) o] ∧ d = .reg (dForm (slabsOf ((boxesOf f).map turnB))) o
theorem c_turned {f : Addr} {fd : FuncData} (F : Fun K "turned" "turned" s_turned f fd) (hm : mg "turned" = some (.ref f)) (R : RCls K C) (cR : CalD P w K mg base C 1 "check_region" rCkReg) (cB : CalD P w K mg base C 1 "boxes_of" rBoxes) (cM : CalD P w K mg base C 3 "moved" rMoved) : CalD P w K mg base C 4 "turned" rTurn :=
  calD F sc_turned hm (fun _ _ _ _ _ _ us hl => match us, hl with | [_], _ => rfl) (by rintro ds d ⟨f, o, _, rfl, _⟩; rfl) fun cdv A outer s H E ds d hr h => by
    obtain ⟨f, o, hb, rfl, rfl⟩ := h
    have hl := hb.len
    refine sds_cons (sd_expr (ev_call cR hr (ea_cons (ev_v 0) ea_nil) ⟨_, _, rfl, rfl⟩) ?_)
    exact sds_cons (sd_ret (ev_call cM hr (ea_cons (ev_v 0) (ea_cons (Ev.cast (k' := .lst (((boxesOf f).map turnB).map dBox)) (ev_new (en_lc1 (own := [("x1", 1), ("y1", 2), ("x2", 3), ("y2", 4)]) (xs := boxesOf f) (enc := dBox) (f := fun b => dBox (turnB b)) (ei_lst (ev_call cB hr (ea_cons (ev_form R (ev_v 0)) ea_nil) ⟨f, by omega, rfl, rfl⟩)) (eb_t (egs_cons (eb_n 1 sc_turned.nd) (egs_cons (eb_n 2 sc_turned.nd) (egs_cons (eb_n 3 sc_turned.nd) (egs_cons (eb_n 4 sc_turned.nd) egs_nil)))))
        (fun b hb => ⟨_, rfl, fun _ _ _ _ _ => ev_tup (ea_cons (ev_sub ev_int (ev_v 4)) (ea_cons (ev_v 1) (ea_cons (ev_sub ev_int (ev_v 2)) (ea_cons (ev_v 3) ea_nil))))⟩) (by omega) sc_turned.nd (blkOk_by (N := n_turned) (sc := defScope s_turned) (by decide +kernel)))) (by rw [List.map_map]; rfl)) ea_nil)) ⟨_, _, _, hb, rfl, rfl⟩) rfl)
end
end BR
/-! BrL: a, b = x, y; slices; lists of different lengths; by data. -/
namespace BR
open PySem PySem.Spec PyProof.Rows L2
section
variable {X : Cx}
def rNeLen (K : PySem.W.Frag) : R2 := fun x y H Q => ∃ p q xs ys, x = .ref p ∧ y = .ref q ∧ SqL K H p xs ∧ SqL K H q ys ∧ xs.length ≠ ys.length ∧ Q (.bl true) H
theorem op_neLen (hu : X.A.units < cLine) : OpR X (compareOp .NotEq) (rNeLen X.K) := by
  intro pins s σ H x y v u Q I rx ry h
  obtain ⟨p, q, xs, ys, rfl, rfl, hp, hq, hl, k⟩ := h
  cases (show v = Value.ref p from rx)
  cases (show u = Value.ref q from ry)
  obtain ⟨its, r, pl, hz⟩ := I.list hp
  obtain ⟨its2, r2, pl2, hz2⟩ := I.list hq
  show wpAny _ _ (richCompare .NotEq (.ref p) (.ref q)) _ _ _
  refine SeqAt.RcNeAt.lists_lengths pl.isList pl2.isList ?_ hu _ _ _ _ ⟨.bl true, H, I, rfl, k⟩
  have h1 := r.length
  have h2 := r2.length
  simp only [List.size_toArray, bne_iff_ne, ne_eq]
  omega
variable {C : Addr} {ρ : DE} {M : Mem} {P : Po} {a b e : Expr} {d d1 d2 d3 : Dt} {ds es : List Dt} {pos : Pos}
theorem et_neLen {n : Nat} (hr : Room n X.A) (ha : Ev X C ρ M a (.lst ds)) (hb : Ev X C ρ M b (.lst es)) (h : ds.length ≠ es.length) : EvT X C ρ M (.Compare a [.NotEq] [b] pos) true :=
  et_cmp (op_neLen hr.units0) (fun x y F H Q e r1 r2 q => by
    obtain ⟨p, xs, rfl, hp, ra⟩ := r1.inj_lst
    obtain ⟨p2, ys, rfl, hp2, ra2⟩ := r2.inj_lst
    exact ⟨p, p2, xs, ys, rfl, rfl, .of (e _ _ hp), .of (e _ _ hp2), by rw [ra.length, ra2.length]; exact h, q _ F H (.refl e) (.bl _)⟩) ha hb (nomark _)
/-- e[1:] of a list -/
theorem cut1d (xs : List V) : cutV xs (some 1) none = xs.drop 1 := cut1 xs
theorem en_drop1 {k : Nat} {p4 p5 : Pos} (h : Ev X C ρ M e (.lst ds)) : EvN X C ρ M (.Subscript e (.Slice (some (.Constant (.int 1) k p4)) none none p5) pos) (ds.drop 1) :=
  PE.imp (pe_slice sl_list h (po_some pe_int) po_none) fun σ H Q ⟨F, I, q⟩ => ⟨F, I, fun v F1 H1 e1 r1 => by
    obtain ⟨p, xs, rfl, hp, ra⟩ := r1.inj_lst
    refine ⟨1, rfl, p, xs, rfl, .of (e1.fh _ _ hp), fun l hl => ?_⟩
    rw [cut1]
    exact q l _ F1 _ (e1.free hl) (e1.trans (.newH e1.fh hl)) (e1.fh.free hl) upd_same (ra.drop 1)⟩
theorem RpAll.two' {F : Hp} {vs : List V} (h : RpAll C F vs [d1, d2]) : ∃ v u, vs = [v, u] ∧ Rp C F v d1 ∧ Rp C F u d2 := h.two
/-- x, y = a, b; two plain local names -/
theorem sd_par (i j : Nat) {x y : Str} {px py pt : Pos} {kt k2 : Nat} {pt2 : Pos} (ha : EvA X C ρ M [a, b] [d1, d2]) (h : P.nx ((ρ.set i (some d1)).set j (some d2)) M) (hN : X.N.Nodup) (hi : X.N[i]? = some x := by rfl) (hj : X.N[j]? = some y := by rfl) (hij : i ≠ j := by decide)
    (hx : X.env.scope.names.lookup x = some .local := by rfl) (hy : X.env.scope.names.lookup y = some .local := by rfl) (hc : X.calm = true := by rfl)
    (hw : swappedStores [.Tuple [.Name x px, .Name y py] kt pt] (.Tuple [a, b] k2 pt2) X.env = pure (some [x, y]) := by rfl)
    (hs : swapsWithSole [.Tuple [.Name x px, .Name y py] kt pt] (.Tuple [a, b] k2 pt2) pos.line X.env = pure false := by rfl) : SD X C (.Assign [.Tuple [.Name x px, .Name y py] kt pt] (.Tuple [a, b] k2 pt2) pos) ρ M P :=
  PS.imp (ps_par hc hN hi hj hij hx hy ha hw hs) fun D σ H ⟨Fb, Hb, F, b, I, q⟩ => ⟨F, I, fun vs F1 H1 e1 r => by
    obtain ⟨v, u, rfl, r1, r2⟩ := r.two
    exact ⟨v, u, rfl, q.nx _ M _ F1 H1 h (b.ext e1) (((I.ext e1).set r1).set r2)⟩⟩
/-- .. the first a new list that will change -/
theorem sd_parN (i j : Nat) {x y : Str} {px py pt : Pos} {kt k2 : Nat} {pt2 : Pos} (ha : EvN X C ρ M a ds) (hb : Ev X C ρ M b d2) (h : ∀ p, P.nx ((ρ.set i (some (.ref p))).set j (some d2)) (M ++ [(p, .lst ds)])) (hN : X.N.Nodup) (hi : X.N[i]? = some x := by rfl) (hj : X.N[j]? = some y := by rfl) (hij : i ≠ j := by decide)
    (hx : X.env.scope.names.lookup x = some .local := by rfl) (hy : X.env.scope.names.lookup y = some .local := by rfl) (hc : X.calm = true := by rfl)
    (hw : swappedStores [.Tuple [.Name x px, .Name y py] kt pt] (.Tuple [a, b] k2 pt2) X.env = pure (some [x, y]) := by rfl)
    (hs : swapsWithSole [.Tuple [.Name x px, .Name y py] kt pt] (.Tuple [a, b] k2 pt2) pos.line X.env = pure false := by rfl)
    (h1 : starEach [a, b] X.env = (false, eval a X.env) :: starEach [b] X.env := by rfl) (h2 : starEach [b] X.env = (false, eval b X.env) :: starEach [] X.env := by rfl) : SD X C (.Assign [.Tuple [.Name x px, .Name y py] kt pt] (.Tuple [a, b] k2 pt2) pos) ρ M P :=
  PS.imp (ps_par hc hN hi hj hij hx hy (pa_cons ha (pa_cons hb pa_nil h2) h1) hw hs) fun D σ H ⟨Fb, Hb, F, b, I, q⟩ => ⟨F, I, fun p xs F1 H1 hp e1 hf hH r => ⟨F1, I.ext e1, fun v F2 H2 e2 r2 => by
    have I2 := (I.ext e1).ext e2
    have hf2 : F2 p = none := by rw [e2.old p ⟨_, hH, fun _ z => nomatch z⟩]; exact hf
    have hH2 : H2 p = some (.lst xs) := e2.h _ _ hH
    have hn : ∀ (j : Nat) q u, M[j]? = some (q, u) → q ≠ p := fun j q u hj z => by
      obtain ⟨_, o, ho, _⟩ := I.m.m j q u hj
      rw [z, hp] at ho
      cases ho
    have I3 : En C F2 ρ (M ++ [(p, .lst ds)]) σ H2 := ⟨I2.fh, I2.len, I2.sl, I2.m.push hf2 hH2 ⟨xs, rfl, r.to e2.f⟩ hn⟩
    refine ⟨.ref p, v, rfl, q.nx _ _ _ F2 H2 (h p) ⟨(b.x.trans e1).trans e2, fun j q u hj => ?_⟩ ((I3.set (.ref p)).set r2)⟩
    rw [List.getElem?_append] at hj
    split at hj
    · exact b.n j q u hj
    · rw [List.getElem?_singleton] at hj
      split at hj
      · cases hj
        exact b.x.free hp
      · cases hj⟩⟩
end
end BR
/-! BrW6: parts. -/
namespace BR
open PySem PySem.Spec PyProof.Rows L2
theorem noL_box (b : Box) : noL (dBox b) = true := by simp [dBox, noL, noLs]
section
variable {P : Program} {w : World} {K : PySem.W.Frag} {mg : Str → Option Value} {base : Heap} {C : Addr}
def rLinked : List Dt → Dt → Prop := fun ds d => ∃ a b : Box, ds = [dBox a, dBox b, .bl false] ∧ d = .bl (linked a b)
theorem c_are_linked {f : Addr} {fd : FuncData} (F : Fun K "are_linked" "are_linked" s_are_linked f fd) (hm : mg "are_linked" = some (.ref f)) (B : NB mg) : CalD P w K mg base C 1 "are_linked" rLinked :=
  calD F sc_are_linked hm (fun _ _ _ _ _ _ us hl => match us, hl with | [_, _, _], _ => rfl) (by rintro ds d ⟨a, b, rfl, _⟩; rfl) fun cdv A outer s H E ds d hr h => by
    obtain ⟨a, b, rfl, rfl⟩ := h
    refine sds_cons (sd_if (EvW.t (ew_and (et_neI (ev_ixT (ev_v 0) ev_int) (ev_ixT (ev_v 1) ev_int)) fun _ => ew_and1 (et_neI (ev_ixT (ev_v 1) ev_int) (ev_ixT (ev_v 0) ev_int)))) (fun h => sds_cons (sd_ret ev_bl ?_)) fun h => sds_nil ?_)
    · simp only [Bool.and_eq_true, Bool.not_eq_true', decide_eq_false_iff_not] at h
      simp [linked, h.1, h.2]
    · refine sds_cons (sd_par 3 4 (ea_cons (ev_callB (call_max2 rfl) cd_max2 (ea_cons (ev_ixT (ev_v 0) ev_int) (ea_cons (ev_ixT (ev_v 1) ev_int) ea_nil)) (B.h _ (by decide))) (ea_cons (ev_callB (call_min2 rfl) cd_min2 (ea_cons (ev_ixT (ev_v 0) ev_int) (ea_cons (ev_ixT (ev_v 1) ev_int) ea_nil)) (B.h _ (by decide))) ea_nil)) ?_ sc_are_linked.nd)
      refine sds_cons (sd_ret (ev_or (ev_lt (ev_v 3) (ev_v 4)) fun _ => ev_one (ev_and (k1 := false) (k2 := false) (ev_v 2) fun h => by cases h)) ?_)
      have hx : (decide (a.2.2.1 = b.1) || decide (b.2.2.1 = a.1)) = true := by
        simp only [Bool.and_eq_false_iff, Bool.not_eq_false', decide_eq_true_eq] at h
        simpa using h
      show Dt.bl (_ || _) = Dt.bl (linked a b)
      rw [linked, hx]
      simp [maxI, minI]
/-- groups -/
def dGroup (g : List Box) : Dt := .lst (g.map dBox)
def rGroups : List Dt → Dt → Prop := fun ds d => ∃ bs : List Box, bs.length ≤ 1000 ∧ ds = [.lst (bs.map dBox), .bl false] ∧ d = .lst ((groupsOf bs).map dGroup)
theorem atI_nat {α β : Type} {f : α → β} {xs : List α} {n : Nat} {x : α} (h : xs[n]? = some x) : atI (xs.map f) (n : Int) = some (f x) := by
  have hl : n < xs.length := (List.getElem?_eq_some_iff.mp h).1
  unfold atI ixN
  rw [if_pos (by omega), if_pos (by rw [List.length_map]; omega)]
  show (xs.map f)[((n : Int)).toNat]? = _
  rw [Int.toNat_natCast, List.getElem?_map, h]
  rfl
theorem c_groups_of {f : Addr} {fd : FuncData} (F : Fun K "groups_of" "groups_of" s_groups_of f fd) (hm : mg "groups_of" = some (.ref f)) (B : NB mg) (cL : CalD P w K mg base C 1 "are_linked" rLinked) : CalD P w K mg base C 2 "groups_of" rGroups :=
  calD F sc_groups_of hm (fun _ _ _ _ _ _ us hl => match us, hl with | [_, _], _ => rfl) (by rintro ds d ⟨bs, _, rfl, _⟩; rfl) fun cdv A outer s H E ds d hr h => by
    obtain ⟨bs, hl, rfl, rfl⟩ := h
    refine sds_cons (sd_parN 2 3 (en_lst ea_nil) (ev_new (en_callTy call_list_of cn_listL (ea_cons (ev_v 0) ea_nil) (B.h _ (by decide)))) (fun p => ?_) sc_groups_of.nd)
    refine sds_cons (sd_while (fun m ρ1 M1 => ∃ (left : List Box) (found : List (List Box)) (n : Nat), m = left.length ∧ left.length ≤ n ∧ left.length ≤ 1000 ∧ found.length + left.length ≤ 1000 ∧ goG n left found = groupsOf bs ∧ (ρ1 = [some (.lst (bs.map dBox)), some (.bl false), some (.ref p), some (.lst (left.map dBox)), none, none, none] ∧ M1 = [(p, .lst (found.map dGroup))])) bs.length ?_ ?_)
    · exact ⟨bs, [], bs.length, rfl, Nat.le_refl _, hl, by simpa using hl, rfl, rfl, rfl⟩
    rintro m ρ1 M1 ⟨left, found, n, rfl, hn, hl1, hl2, hgo, rfl, rfl⟩
    refine ⟨_, et_neX (x := left) (y := []) cpr_box.lst hr (ev_v 3) (ev_new (en_lst ea_nil)), fun h => ?_, fun h => ?_⟩
    · cases left with
      | nil => simp at h
      | cons b r =>
        cases n with
        | zero => simp at hn
        | succ n =>
          rw [List.length_cons] at hn hl1 hl2
          have hrr : ((r.length : Nat) : Int) = r.length := rfl
          refine sds_cons (sd_asg (d := .tup [.lst ([b].map dBox), .lst (r.map dBox), .int (0 : Nat)]) (ev_tup (ea_cons (ev_new (en_lst (ea_cons (ev_ixL (ev_v 3) ev_int (atI_head (f := dBox))) ea_nil))) (ea_cons (ev_new (en_drop1 (ds := (b :: r).map dBox) (ev_v 3))) (ea_cons ev_int ea_nil)))) (eg_t (egs_cons (eg_n 4 sc_groups_of.nd) (egs_cons (eg_n 3 sc_groups_of.nd) (egs_cons (eg_n 5 sc_groups_of.nd) egs_nil)))) rfl ?_)
          refine sds_cons (sd_while (fun m ρ1 M1 => ∃ (g l : List Box) (k q : Nat), m = g.length + l.length - k ∧ g.length + l.length = r.length + 1 ∧ g.length + l.length - k ≤ q ∧ growG q g l k = growG (r.length + 1) [b] r 0 ∧ (ρ1 = [some (.lst (bs.map dBox)), some (.bl false), some (.ref p), some (.lst (l.map dBox)), some (.lst (g.map dBox)), some (.int (k : Nat)), none] ∧ M1 = [(p, .lst (found.map dGroup))])) (r.length + 1) ⟨[b], r, 0, r.length + 1, by simp [Nat.add_comm], by simp [Nat.add_comm], by simp [Nat.add_comm], rfl, rfl, rfl⟩ ?_)
          rintro m ρ1 M1 ⟨g, l, k, q, rfl, hgl, hq, hgr, rfl, rfl⟩
          refine ⟨_, et_lt (ev_v 5) (ev_callB call_len_seq cd_lenL (ea_cons (ev_v 4) ea_nil) (B.h _ (by decide))), fun h => ?_, fun h => ?_⟩
          · rw [List.length_map] at h
            have hk : k < g.length := by
              have := of_decide_eq_true h
              omega
            obtain ⟨c, hc⟩ : ∃ c, g[k]? = some c := ⟨_, List.getElem?_eq_getElem hk⟩
            cases q with
            | zero => omega
            | succ q =>
              have hf := filter_two (linked c) l
              have hc2 : (g ++ l.filter (linked c))[k]? = some c := by rw [List.getElem?_append_left hk]; exact hc
              refine sds_cons (sd_set 4 (d := .lst ((g ++ l.filter (linked c)).map dBox)) (Ev.cast (ev_new (en_catL (ev_v 4) (ev_new (en_lc1f (own := [("box", 6)]) (xs := l) (enc := dBox) (p := linked c) (f := dBox) (ei_lst (ev_v 3)) (eb_n 6 sc_groups_of.nd)
                (fun x hx => ⟨_, rfl, fun _ _ _ _ _ => et_val (ev_call cL hr (ea_cons (ev_ixL (ev_v 4) (ev_v 5) (atI_nat (f := dBox) hc)) (ea_cons (ev_v 6) (ea_cons (ev_v 1) ea_nil))) ⟨c, x, rfl, rfl⟩), fun _ _ _ _ _ _ => ev_v 6⟩) (by omega) sc_groups_of.nd (blkOk_by (N := n_groups_of) (sc := defScope s_groups_of) (by decide +kernel)))) (by
                  rw [List.length_map, List.length_map]
                  omega))) (by rw [List.map_append])) ?_ sc_groups_of.nd)
              refine sds_cons (sd_setC 3 (el_lc1f (own := [("box", 6)]) (xs := l) (enc := dBox) (p := fun x => !linked c x) (f := dBox) (ei_lst (ev_v 3)) (eb_n 6 sc_groups_of.nd)
                (fun x hx => ⟨_, rfl, fun _ _ _ _ _ => et_not (et_val (ev_call cL hr (ea_cons (ev_ixL (ev_v 4) (ev_v 5) (atI_nat (f := dBox) hc2)) (ea_cons (ev_v 6) (ea_cons (ev_v 1) ea_nil))) ⟨c, x, rfl, rfl⟩)), fun _ _ _ _ _ _ => ev_v 6⟩) (by omega) sc_groups_of.nd (blkOk_by (N := n_groups_of) (sc := defScope s_groups_of) (by decide +kernel))) ?_)
              refine sds_cons (sd_aug (i := 5) (m := (k : Int)) (n := 1) rfl ev_int (sds_nil ?_) sc_groups_of.nd)
              refine ⟨g.length + l.length - (k + 1), [some (.lst (bs.map dBox)), some (.bl false), some (.ref p), some (.lst ((l.filter fun x => !linked c x).map dBox)), some (.lst ((g ++ l.filter (linked c)).map dBox)), some (.int ((k + 1 : Nat) : Int)), none], by omega, by repeat (first | exact Le.nil | apply Le.some | apply Le.none), g ++ l.filter (linked c), l.filter fun x => !linked c x, k + 1, q, ?_, ?_, ?_, ?_, rfl, rfl⟩
              · rw [List.length_append]; omega
              · rw [List.length_append]; omega
              · rw [List.length_append]; omega
              · rw [← hgr]
                exact (growG_step hc).symm
          · rw [List.length_map] at h
            have hk : ¬ k < g.length := by
              have := of_decide_eq_false h
              omega
            have hres : growG q g l k = (g, l) := by
              cases q with
              | zero => rfl
              | succ q =>
                unfold growG
                rw [List.getElem?_eq_none (by omega)]
            rw [hres] at hgr
            refine sds_cons (sd_app 0 (ev_v 2) (ev_v 4) rfl (by rw [List.length_map]; omega) (sds_nil ?_))
            have e1 := congrArg Prod.fst hgr
            have e2 := congrArg Prod.snd hgr
            dsimp only at e1 e2
            have hlen := growG_len (r.length + 1) [b] r 0
            refine ⟨l.length, [some (.lst (bs.map dBox)), some (.bl false), some (.ref p), some (.lst (l.map dBox)), none, none, none], ?_, by repeat (first | exact Le.nil | apply Le.some | apply Le.none), l, found ++ [g], n, rfl, ?_, ?_, ?_, ?_, rfl, ?_⟩
            · rw [List.length_cons]
              rw [← e2] at hlen
              omega
            · rw [← e2] at hlen
              omega
            · rw [← e2] at hlen
              omega
            · rw [← e2] at hlen
              rw [List.length_append, List.length_singleton]
              omega
            · rw [← hgo]
              show _ = goG (n + 1) (b :: r) found
              unfold goG
              rw [← e1, ← e2]
              cases n <;> cases l <;> rfl
            · rw [List.map_append]
              rfl
    · have e : left = [] := by simpa using h
      subst e
      refine sds_freeze 0 2 ?_
      refine sds_cons (sd_ret (ev_v 2) ?_)
      have : goG n [] found = found := by cases n <;> rfl
      rw [← hgo, this]
end
end BR
/-! BrW7: the part of a region that has a square. -/
namespace BR
open PySem PySem.Spec PyProof.Rows L2
theorem goG_len : ∀ (n : Nat) (l : List Box) (found : List (List Box)), (goG n l found).length ≤ found.length + n
  | 0, l, found => Nat.le_refl _
  | n + 1, [], found => Nat.le_add_right _ _
  | n + 1, b :: r, found => by
    unfold goG
    have := goG_len n (growG (r.length + 1) [b] r 0).2 (found ++ [(growG (r.length + 1) [b] r 0).1])
    rw [List.length_append, List.length_singleton] at this
    omega
theorem groups_len (bs : List Box) : (groupsOf bs).length ≤ bs.length := by
  have := goG_len bs.length bs []
  rw [List.length_nil, Nat.zero_add] at this
  exact this
/-- a form whose parts may be asked for -/
structure PartOk (f : Form) : Prop where
  len : (boxesOf f).length ≤ 1000
  gs : ∀ g ∈ groupsOf (boxesOf f), SlabOk g
  sp : ∀ g ∈ groupsOf (boxesOf f), ∀ n, (spansAt (slabsOf g) n).length ≤ 1000
def dPart (g : List Box) : Dt := .reg (dForm (slabsOf g)) false
/-- the part that has the square -/
def IsPart (f : Form) (p : Pr) (g : List Box) : Prop := ∃ r, (groupsOf (boxesOf f)).filter (fun g => hasSq (slabsOf g) false p) = g :: r
section
variable {P : Program} {w : World} {K : PySem.W.Frag} {mg : Str → Option Value} {base : Heap} {C : Addr}
def rParts : List Dt → Dt → Prop := fun ds d => ∃ f : Form, PartOk f ∧ ds = [.reg (dForm f) false, .bl false] ∧ d = .lst ((groupsOf (boxesOf f)).map dPart)
theorem c_part_regions {f : Addr} {fd : FuncData} (F : Fun K "part_regions" "part_regions" s_part_regions f fd) (hm : mg "part_regions" = some (.ref f)) (R : RCls K C) (cK : MkD P w K mg base C) (cS : CalD P w K mg base C 2 "slabs_of" rSlabs) (cB : CalD P w K mg base C 1 "boxes_of" rBoxes) (cG : CalD P w K mg base C 2 "groups_of" rGroups) : CalD P w K mg base C 3 "part_regions" rParts :=
  calD F sc_part_regions hm (fun _ _ _ _ _ _ us hl => match us, hl with | [_, _], _ => rfl) (by rintro ds d ⟨f, _, rfl, _⟩; rfl) fun cdv A outer s H E ds d hr h => by
    obtain ⟨f, ok, rfl, rfl⟩ := h
    have h1 := groups_len (boxesOf f)
    have h2 := ok.len
    refine sds_cons (sd_if (et_not (et_val (ev_out (o := false) R (ev_v 0)))) (fun _ => ?_) fun h => by cases h)
    exact sds_cons (sd_ret (ev_new (en_lc1 (own := [("group", 2)]) (xs := groupsOf (boxesOf f)) (enc := dGroup) (f := dPart) (ei_lst (ev_call cG hr (ea_cons (ev_call cB hr (ea_cons (ev_form R (ev_v 0)) ea_nil) ⟨f, by omega, rfl, rfl⟩) (ea_cons (ev_v 1) ea_nil)) ⟨_, h2, rfl, rfl⟩)) (eb_n 2 sc_part_regions.nd)
      (fun g hg => ⟨_, rfl, fun _ _ _ _ _ => ev_mk cK hr (ea_cons (ev_call cS hr (ea_cons (ev_v 2) ea_nil) (ok.gs g hg).r) (ea_cons ev_bl ea_nil))⟩) (by omega) sc_part_regions.nd (blkOk_by (N := n_part_regions) (sc := defScope s_part_regions) (by decide +kernel)))) rfl)
def rPartWith : List Dt → Dt → Prop := fun ds d => ∃ (f : Form) (p : Pr) (g : List Box), PartOk f ∧ IsPart f p g ∧ ds = [.reg (dForm f) false, dPr p, .bl false] ∧ d = dPart g
theorem c_part_with {f : Addr} {fd : FuncData} (F : Fun K "part_with" "part_with" s_part_with f fd) (hm : mg "part_with" = some (.ref f)) (cP : CalD P w K mg base C 3 "part_regions" rParts) (oH : OwnD P w K mg base C 5 "__contains__" rHas) : CalD P w K mg base C 6 "part_with" rPartWith :=
  calD F sc_part_with hm (fun _ _ _ _ _ _ us hl => match us, hl with | [_, _, _], _ => rfl) (by rintro ds d ⟨f, p, g, _, _, rfl, _⟩; rfl) fun cdv A outer s H E ds d hr h => by
    obtain ⟨f, p, g, ok, ⟨r, hg⟩, rfl, rfl⟩ := h
    have h1 := groups_len (boxesOf f)
    have h2 := ok.len
    refine sds_cons (sd_setC 3 (el_lc1f (own := [("part", 4)]) (xs := groupsOf (boxesOf f)) (enc := dPart) (p := fun g => hasSq (slabsOf g) false p) (f := dPart) (ei_lst (ev_call cP hr (ea_cons (ev_v 0) (ea_cons (ev_v 2) ea_nil)) ⟨f, ok, rfl, rfl⟩)) (eb_n 4 sc_part_with.nd)
      (fun g hg => ⟨_, rfl, fun _ _ _ _ _ => et_inR oH hr (ev_v 1) (ev_v 4) ⟨slabsOf g, false, p, ok.sp g hg _, rfl, rfl⟩, fun _ _ _ _ _ _ => ev_v 4⟩) (by omega) sc_part_with.nd (blkOk_by (N := n_part_with) (sc := defScope s_part_with) (by decide +kernel))) ?_)
    rw [hg]
    exact sds_cons (sd_ret (ev_if (et_neLen hr (ev_v 3) (ev_new (en_lst ea_nil)) (by simp)) (fun _ => ev_ixL (ev_v 3) ev_int (atI_head (f := dPart))) fun h => by cases h) rfl)
/-- what may be called by its name with defaults behind -/
structure CalX (P : Program) (w : World) (K : PySem.W.Frag) (mg : Str → Option Value) (base : Heap) (C : Addr) (k : Nat) (x : Str) (dd : List Dt) (R : List Dt → Dt → Prop) : Prop where
  ex : ∃ (f : Addr) (fd : FuncData) (ps : List Str) (dvs : List V) (dsv : List Value), FnOk P w K mg base CX0 k f fd ps (spD C R) ∧ mg x = some (.ref f) ∧ PySem.W.keepIn K (.ref f) = true ∧ Binds K fd ps dsv ∧ Vals dvs dsv ∧ ∀ F, RpAll C F dvs dd
theorem ev_callX {X : Cx} {C : Addr} {ρ : DE} {M : Mem} {e : Expr} {es : List Expr} {d : Dt} {ds dd : List Dt} {p pos : Pos} {x : Str} {k j : Nat} {R : List Dt → Dt → Prop} (c : CalX X.prog X.w X.K X.mg X.base C k x dd R) (hr : Room j X.A) (ha : EvA X C ρ M (e :: es) ds) (h : R (ds ++ dd) d) (hk : k ≤ j := by first | assumption | decide) (hg : Gl X x := by rfl)
    (hdb : (x == ("__debug__" : Str)) = false := by decide) (he : starEach (e :: es) X.env = (false, eval e X.env) :: starEach es X.env := by rfl) (hpl : ((backTo pos (starEach es X.env)).any fun x => x.1) = false := by rfl) : Ev X C ρ M (.Call (.Name x p) (e :: es) [] pos) d := by
  obtain ⟨f, fd, ps, dvs, dsv, F, hm, kp, b, dv, rd⟩ := c.ex
  exact PE.imp (pe_call F (hr.mono hk) hg hm kp b dv pass0 ha hdb he hpl) fun σ H Q ⟨F, I, q⟩ => ⟨F, I, fun vs F1 H1 e1 r1 =>
    ⟨F1, ds ++ dd, d, e1.fh, r1.append (rd F1), h, fun v F2 H2 e2 r2 => q v F2 H2 (e1.trans e2) r2⟩⟩
theorem c_part_of {f : Addr} {fd : FuncData} (F : FunD K "part_of" "part_of" (defArgs s_part_of) (defBody s_part_of) (defScope s_part_of) [] [("corners", .bl false)] f fd) (hm : mg "part_of" = some (.ref f)) (cR : CalD P w K mg base C 1 "check_region" rCkReg) (cS : CalD P w K mg base C 4 "check_square" rCkSq) (cF : CalD P w K mg base C 1 "check_flag" rCkFlag) (cP : CalD P w K mg base C 6 "part_with" rPartWith) : CalX P w K mg base C 7 "part_of" [.bl false] rPartWith := by
  have ok : FnOk P w K mg base CX0 7 f fd ["region", "square", "corners"] (spD C rPartWith) := F.ok sc_part_of (fun vs H Q E ⟨F, ds, d, _, r, ⟨f, p, g, _, _, e, _⟩, _⟩ => by rw [r.length, e]; rfl) fun cdv A outer s H vs Q E hr ⟨Fc, ds, d, e, r, h, q⟩ => by
    have body : SDs (cxOf CX0 P w K mg base n_part_of "part_of" (defScope s_part_of) f cdv A outer s H E).nox C (defBody s_part_of) (en0 n_part_of ds) [] { nx := fun _ _ => d = .non, rt := fun d' _ => d' = d } := by
      obtain ⟨f, p, g, ok, hg, rfl, rfl⟩ := h
      exact sds_cons (sd_expr (ev_call cR hr (ea_cons (ev_v 0) ea_nil) ⟨_, _, rfl, rfl⟩) (sds_cons (sd_expr (ev_call cS hr (ea_cons (ev_v 1) ea_nil) ⟨p, rfl, rfl⟩) (sds_cons (sd_expr (ev_call cF hr (ea_cons (ev_v 2) ea_nil) ⟨_, rfl, rfl⟩)
        (sds_cons (sd_ret (ev_call cP hr (ea_cons (ev_v 0) (ea_cons (ev_v 1) (ea_cons (ev_v 2) ea_nil))) ⟨f, p, g, ok, hg, rfl, rfl⟩) rfl)))))))
    refine ⟨_, PSs.nox body, Fc, H, Fc, ⟨.refl e, fun i p d hi => nomatch hi⟩, ⟨e, ?_, fun i d hi => en0_sl r hi, ⟨fun i p d hi => (nomatch hi), List.nodup_nil⟩⟩, ?_⟩
    · unfold L2.start en0
      rw [List.length_append, List.length_append, List.length_map, List.length_map, List.length_replicate, List.length_replicate, r.length]
    · refine ⟨fun ρ M σ F1 H1 hd b I => ?_, fun _ _ _ _ _ z => z.elim, fun _ _ _ _ _ z => z.elim, fun v d' M F1 H1 hd b m r' => ?_⟩
      · subst hd
        exact q .non F1 H1 b.x .non
      · subst hd
        exact q v F1 H1 b.x r'
  obtain ⟨dsv, dv, b⟩ := F.binds0 (ps := ["region", "square", "corners"]) 2 (by simp) rfl (fun D doc pm an cdv ct us ks hu hk => match us, hu, ks, hk with
    | [_, _], _, [_], _ => ⟨_, _, _, _, _, _, rfl, rfl, rfl⟩)
  exact ⟨f, fd, _, _, dsv, ok, hm, F.kp, b, dv, fun F => .cons (.bl false) .nil⟩
end
end BR
/-! BrV: order of data: <, <=, min and max of two, min of a list. -/
namespace BR
open PySem PySem.Spec PyProof.Rows L2 PySem.W
section
variable {prog : Program} {w : World} {A : Around} {E : Value → Shared → Prop} {s : Shared} {a b : Value} {da db : PyData} {as bs : List Addr}
theorem min_two_data {Q : Value → Shared → Prop} (hh : A.handled = none) (ra : Reads s.heap a da as) (rb : Reads s.heap b db bs) (ha : AlikeAll [da, db]) (hu : A.units + 1 + PyData.depthAll [da, db] < cLine)
    (h : ∀ h' tk, (∀ b o, s.heap.get? b = some o → h'.get? b = some o) → Q (if dataLt db da = true then b else a) { s with heap := h', toks := tk }) : wpAny (model prog w) A (call (.builtin "min") [a, b]) Q E s := by
  have hname : (toString "min" ++ toString ".loop" : String) = "min.loop" := by decide
  refine call_function_tree PySem.F.kind_min PySem.F.plain_min PySem.F.entry_min (PySem.F.args_min2 _ _) ?_
  show wpAny _ A.in1 (Builtin.Builtins.bindParams "min" ["key", "default"] 0 ⟨[], []⟩ >>= _) _ _ s
  refine wpAny_bind (wpAny_of_eq (show Builtin.Builtins.bindParams "min" ["key", "default"] 0 ⟨[], []⟩ = pure [none, none] from rfl) ?_)
  show wpAny _ A.in1 (newTuple [a, b] >>= _) _ _ s
  refine wpAny_bind (wpAny_newObj_type ?_)
  have k0 : ∀ c o, s.heap.get? c = some o → (s.heap.push { cls := .type "tuple", data := .seq #[a, b] }).get? c = some o := fun c o e => Heap.get?_push_of_some _ e
  have hT : (s.heap.push { cls := .type "tuple", data := .seq #[a, b] }).IsTuple s.heap.objs.size #[a, b] := ⟨_, Heap.get?_push_size _ rfl, rfl, 0, rfl⟩
  have hr : ReadsAll (s.heap.push { cls := .type "tuple", data := .seq #[a, b] }) (#[a, b] : Array Value).toList [da, db] _ := .cons (reads_keeps k0 ra) (.cons (reads_keeps k0 rb) .nil)
  refine wpAny_bind (iter_tupleW (s := { s with heap := s.heap.push { cls := .type "tuple", data := .seq #[a, b] } }) (A := A.in1) hh hT fun s₂ e W st hfp hw hk => ?_)
  refine wpAny_bind (wpAny_newObj_type ?_)
  have hSf : s₂.heap.objs.size ∉ [(s.heap.push { cls := .type "tuple", data := .seq #[a, b] }).objs.size, s.heap.objs.size] := fun hm => Nat.lt_irrefl _ (hfp _ hm)
  rw [hname]
  refine wpAny_pure ⟨plainId_quiet PySem.F.plain_min_loop _, codeAny_min_loop_firstH W _ hw _ (cmpIn_lt (s := { s with heap := s.heap.push { cls := .type "tuple", data := .seq #[a, b] } }) (A := A.in1) hr ha (by show A.units + 1 + _ < _; exact hu)) s₂.heap.objs.size hSf (fresh_in hk) _ (Nat.zero_lt_succ 1) (fun b o e => Heap.get?_push_of_some _ (hk b o e)) (W.frame 0 s₂ _ s₂.toks st (Nat.le_refl _) fun b _ o e => Heap.get?_push_of_some _ e) (Heap.get?_push_size _ rfl) fun v s' hP hm => ?_⟩
  obtain ⟨h', tk, rfl, hk'⟩ := moved_old e rfl (Moved.drop_new (tk := s₂.toks) hm (Nat.le_refl _))
  have hv : v = if dataLt db da = true then b else a := by
    have hP' : (#[a, b] : Array Value)[argBest (fun i j => dataLt ([da, db].getD i .none) ([da, db].getD j .none)) 1]? = some v := hP
    by_cases hba : dataLt db da = true
    · have e1 : argBest (fun i j => dataLt ([da, db].getD i .none) ([da, db].getD j .none)) 1 = 1 := by simp [argBest, hba]
      rw [e1] at hP'
      rw [if_pos hba]
      simpa using hP'.symm
    · have e1 : argBest (fun i j => dataLt ([da, db].getD i .none) ([da, db].getD j .none)) 1 = 0 := by simp [argBest, hba]
      rw [e1] at hP'
      rw [if_neg hba]
      simpa using hP'.symm
  rw [hv]
  exact h h' tk fun c o q => hk' c o (k0 c o q)
theorem max_two_data {Q : Value → Shared → Prop} (hh : A.handled = none) (ra : Reads s.heap a da as) (rb : Reads s.heap b db bs) (ha : AlikeAll [da, db]) (hu : A.units + 1 + PyData.depthAll [da, db] < cLine)
    (h : ∀ h' tk, (∀ b o, s.heap.get? b = some o → h'.get? b = some o) → Q (if dataLt da db = true then b else a) { s with heap := h', toks := tk }) : wpAny (model prog w) A (call (.builtin "max") [a, b]) Q E s := by
  have hname : (toString "max" ++ toString ".loop" : String) = "max.loop" := by decide
  refine call_function_tree PySem.F.kind_max PySem.F.plain_max PySem.F.entry_max (PySem.F.args_max2 _ _) ?_
  show wpAny _ A.in1 (Builtin.Builtins.bindParams "max" ["key", "default"] 0 ⟨[], []⟩ >>= _) _ _ s
  refine wpAny_bind (wpAny_of_eq (show Builtin.Builtins.bindParams "max" ["key", "default"] 0 ⟨[], []⟩ = pure [none, none] from rfl) ?_)
  show wpAny _ A.in1 (newTuple [a, b] >>= _) _ _ s
  refine wpAny_bind (wpAny_newObj_type ?_)
  have k0 : ∀ c o, s.heap.get? c = some o → (s.heap.push { cls := .type "tuple", data := .seq #[a, b] }).get? c = some o := fun c o e => Heap.get?_push_of_some _ e
  have hT : (s.heap.push { cls := .type "tuple", data := .seq #[a, b] }).IsTuple s.heap.objs.size #[a, b] := ⟨_, Heap.get?_push_size _ rfl, rfl, 0, rfl⟩
  have hr : ReadsAll (s.heap.push { cls := .type "tuple", data := .seq #[a, b] }) (#[a, b] : Array Value).toList [da, db] _ := .cons (reads_keeps k0 ra) (.cons (reads_keeps k0 rb) .nil)
  refine wpAny_bind (iter_tupleW (s := { s with heap := s.heap.push { cls := .type "tuple", data := .seq #[a, b] } }) (A := A.in1) hh hT fun s₂ e W st hfp hw hk => ?_)
  refine wpAny_bind (wpAny_newObj_type ?_)
  have hSf : s₂.heap.objs.size ∉ [(s.heap.push { cls := .type "tuple", data := .seq #[a, b] }).objs.size, s.heap.objs.size] := fun hm => Nat.lt_irrefl _ (hfp _ hm)
  rw [hname]
  refine wpAny_pure ⟨plainId_quiet PySem.F.plain_max_loop _, codeAny_max_loop_firstH W _ hw _ (cmpIn_gt (s := { s with heap := s.heap.push { cls := .type "tuple", data := .seq #[a, b] } }) (A := A.in1) hr ha (by show A.units + 1 + _ < _; exact hu)) s₂.heap.objs.size hSf (fresh_in hk) _ (Nat.zero_lt_succ 1) (fun b o e => Heap.get?_push_of_some _ (hk b o e)) (W.frame 0 s₂ _ s₂.toks st (Nat.le_refl _) fun b _ o e => Heap.get?_push_of_some _ e) (Heap.get?_push_size _ rfl) fun v s' hP hm => ?_⟩
  obtain ⟨h', tk, rfl, hk'⟩ := moved_old e rfl (Moved.drop_new (tk := s₂.toks) hm (Nat.le_refl _))
  have hv : v = if dataLt da db = true then b else a := by
    have hP' : (#[a, b] : Array Value)[argBest (fun i j => dataLt ([da, db].getD j .none) ([da, db].getD i .none)) 1]? = some v := hP
    by_cases hba : dataLt da db = true
    · have e1 : argBest (fun i j => dataLt ([da, db].getD j .none) ([da, db].getD i .none)) 1 = 1 := by simp [argBest, hba]
      rw [e1] at hP'
      rw [if_pos hba]
      simpa using hP'.symm
    · have e1 : argBest (fun i j => dataLt ([da, db].getD j .none) ([da, db].getD i .none)) 1 = 0 := by simp [argBest, hba]
      rw [e1] at hP'
      rw [if_neg hba]
      simpa using hP'.symm
  rw [hv]
  exact h h' tk fun c o q => hk' c o (k0 c o q)
end
/-! ### as rules, by data -/
/-- data in an order -/
structure Odr {α : Type} (enc : α → Dt) (k : Nat) (lt : α → α → Bool) : Prop where
  n : ∀ x, noR (enc x) = true
  al : ∀ x y, alike (toPy (enc x)) (toPy (enc y)) = true
  nn : ∀ x, toPy (enc x) ≠ .none
  d : ∀ x, (toPy (enc x)).depth ≤ k
  lt : ∀ x y, dataLt (toPy (enc x)) (toPy (enc y)) = lt x y
section
variable {X : Cx}
def rLtD (K : PySem.W.Frag) : R2 := fun x y H Q => ∃ d e, Dp K H x d ∧ Dp K H y e ∧ alike d e = true ∧ d ≠ .none ∧ d.depth ≤ 60 ∧ Q (.bl (dataLt d e)) H
theorem op_ltD (hu : X.A.units + 64 < cLine) : OpR X (compareOp .Lt) (rLtD X.K) := by
  intro pins s σ H x y v u Q I rx ry h
  obtain ⟨d, e, hd, he, ha, hn, hk, q⟩ := h
  obtain ⟨as, r1⟩ := Dp.reads I d x v hd rx
  obtain ⟨bs, r2⟩ := Dp.reads I e y u he ry
  exact lt_data r1 r2 ha hn (by have := Nat.min_le_left d.depth e.depth; omega) ⟨.bl _, H, I, rfl, q⟩
def rLeD (K : PySem.W.Frag) : R2 := fun x y H Q => ∃ d e, Dp K H x d ∧ Dp K H y e ∧ alike d e = true ∧ d ≠ .none ∧ d.depth ≤ 60 ∧ Q (.bl (!dataLt e d)) H
theorem op_leD (hu : X.A.units + 64 < cLine) : OpR X (compareOp .LtE) (rLeD X.K) := by
  intro pins s σ H x y v u Q I rx ry h
  obtain ⟨d, e, hd, he, ha, hn, hk, q⟩ := h
  obtain ⟨as, r1⟩ := Dp.reads I d x v hd rx
  obtain ⟨bs, r2⟩ := Dp.reads I e y u he ry
  exact le_data r1 r2 ha hn (by have := Nat.min_le_left d.depth e.depth; omega) ⟨.bl _, H, I, rfl, q⟩
def rMin2D (K : PySem.W.Frag) : List V → Hp → VK → Prop := fun xs H Q => ∃ x y d e, xs = [x, y] ∧ Dp K H x d ∧ Dp K H y e ∧ AlikeAll [d, e] ∧ PyData.depthAll [d, e] ≤ 60 ∧ Q (if dataLt e d = true then y else x) H
theorem cr_min2D (hc : X.calm = true) (hu : X.A.units + 64 < cLine) : CallR X (.builtin "min") (rMin2D X.K) := by
  intro pins s σ H xs us Q I r h
  obtain ⟨x, y, d, e, rfl, hd, he, ha, hk, q⟩ := h
  obtain ⟨u, z, rfl, rx, ry⟩ := vals2 r
  obtain ⟨as, r1⟩ := Dp.reads I d x u hd rx
  obtain ⟨bs, r2⟩ := Dp.reads I e y z he ry
  refine min_two_data (I.ok.hd hc) r1 r2 ha (by omega) fun h' tk k => ⟨_, H, I.kept k, ?_, q⟩
  split
  · exact ry
  · exact rx
def rMax2D (K : PySem.W.Frag) : List V → Hp → VK → Prop := fun xs H Q => ∃ x y d e, xs = [x, y] ∧ Dp K H x d ∧ Dp K H y e ∧ AlikeAll [d, e] ∧ PyData.depthAll [d, e] ≤ 60 ∧ Q (if dataLt d e = true then y else x) H
theorem cr_max2D (hc : X.calm = true) (hu : X.A.units + 64 < cLine) : CallR X (.builtin "max") (rMax2D X.K) := by
  intro pins s σ H xs us Q I r h
  obtain ⟨x, y, d, e, rfl, hd, he, ha, hk, q⟩ := h
  obtain ⟨u, z, rfl, rx, ry⟩ := vals2 r
  obtain ⟨as, r1⟩ := Dp.reads I d x u hd rx
  obtain ⟨bs, r2⟩ := Dp.reads I e y z he ry
  refine max_two_data (I.ok.hd hc) r1 r2 ha (by omega) fun h' tk k => ⟨_, H, I.kept k, ?_, q⟩
  split
  · exact ry
  · exact rx
/-- min(l), l a list of alike data: some item, the least -/
def rMinLD (K : PySem.W.Frag) : List V → Hp → VK → Prop := fun vs H Q => ∃ (a : Addr) (xs : List V) (d : PyData) (ds : List PyData), vs = [V.ref a] ∧ SqL K H a xs ∧ DpAll K H xs (d :: ds) ∧ AlikeAll (d :: ds) ∧ PyData.depthAll (d :: ds) ≤ 60 ∧
  ∀ (i : Nat) (x : V), xs[i]? = some x → (d :: ds)[i]? = some (minD d ds) → Q x H
theorem cr_minLD (hc : X.calm = true) (hu : X.A.units + 64 < cLine) : CallR X (.builtin "min") (rMinLD X.K) := by
  intro pins s σ H xs us Q I r h
  obtain ⟨a, vs, d, ds, rfl, ha, hd, hal, hk, q⟩ := h
  obtain ⟨u, rfl, ru⟩ := vals1 r
  obtain rfl : u = Value.ref a := ru
  obtain ⟨its, rv, pl, hz⟩ := I.list ha
  obtain ⟨as, hr⟩ := Dp.readsAll I (d :: ds) vs its hd rv
  refine min_list_data (I.ok.hd hc) pl.isList (by simpa using hr) hal (by omega) fun i v h' tk bs hv hrd kp => ?_
  have hv' : its[i]? = some v := by simpa using hv
  obtain ⟨bs2, r2, hlt, hmem, _⟩ := readsAll_at hr i v hv'
  have h0 := reads_keeps kp r2
  have hmm : minD d ds ∈ d :: ds := by
    unfold minD
    have go : ∀ (l : List PyData) (x : PyData), l.foldl (fun a y => if dataLt y a = true then y else a) x ∈ x :: l := by
      intro l
      induction l with
      | nil => intro x; simp
      | cons y l ih =>
        intro x
        rw [List.foldl_cons]
        have := ih (if dataLt y x = true then y else x)
        rcases List.mem_cons.mp this with e | e
        · rw [e]
          split <;> simp
        · exact List.mem_cons_of_mem _ (List.mem_cons_of_mem _ e)
    exact go ds d
  have e := alike_unique _ _ v _ _ (hal.1 _ hmem _ hmm) h0 hrd
  have hi : i < its.length := (List.getElem?_eq_some_iff.mp hv').1
  have hl : vs.length = its.length := rv.length
  obtain ⟨x, hx⟩ : ∃ x, vs[i]? = some x := ⟨_, List.getElem?_eq_getElem (by omega)⟩
  obtain ⟨u2, hu2, rx⟩ := rv.get hx
  rw [hv'] at hu2
  cases hu2
  refine ⟨x, H, I.kept kp, rx, q i x hx ?_⟩
  rw [← e, List.getD_eq_getElem?_getD, List.getElem?_eq_getElem hlt]
  rfl
end
section
variable {α : Type} {enc : α → Dt} {k : Nat} {lt : α → α → Bool} {x y : α} {C : Addr} {K : PySem.W.Frag}
theorem Odr.two (o : Odr enc k lt) (hk : k ≤ 60) (x y : α) : AlikeAll [toPy (enc x), toPy (enc y)] ∧ PyData.depthAll [toPy (enc x), toPy (enc y)] ≤ 60 := by
  refine ⟨⟨fun a ha b hb => ?_, fun a ha => ?_⟩, ?_⟩
  · simp only [List.mem_cons, List.not_mem_nil, or_false] at ha hb
    rcases ha with rfl | rfl <;> rcases hb with rfl | rfl <;> exact o.al _ _
  · simp only [List.mem_cons, List.not_mem_nil, or_false] at ha
    rcases ha with rfl | rfl <;> exact o.nn _
  · have h1 := o.d x
    have h2 := o.d y
    simp only [PyData.depthAll]
    omega
theorem cd_min2X (o : Odr enc k lt) (hk : k ≤ 60 := by decide) : CD C (rMin2D K) [enc x, enc y] (enc (if lt y x = true then y else x)) := fun xs F H Q e r q => by
  obtain ⟨v, u, rfl, r1, r2⟩ := r.two
  obtain ⟨h1, h2⟩ := o.two hk x y
  refine ⟨v, u, _, _, rfl, Rp.dp _ (o.n x) (r1.to e), Rp.dp _ (o.n y) (r2.to e), h1, h2, ?_⟩
  rw [o.lt]
  refine q _ F H (.refl e) ?_
  split
  · exact r2
  · exact r1
theorem cd_max2X (o : Odr enc k lt) (hk : k ≤ 60 := by decide) : CD C (rMax2D K) [enc x, enc y] (enc (if lt x y = true then y else x)) := fun xs F H Q e r q => by
  obtain ⟨v, u, rfl, r1, r2⟩ := r.two
  obtain ⟨h1, h2⟩ := o.two hk x y
  refine ⟨v, u, _, _, rfl, Rp.dp _ (o.n x) (r1.to e), Rp.dp _ (o.n y) (r2.to e), h1, h2, ?_⟩
  rw [o.lt]
  refine q _ F H (.refl e) ?_
  split
  · exact r2
  · exact r1
/-- the least of x :: l -/
def minBy (lt : α → α → Bool) (x : α) (l : List α) : α := l.foldl (fun a y => if lt y a = true then y else a) x
theorem minBy_py (o : Odr enc k lt) : ∀ (l : List α) (x : α), minD (toPy (enc x)) (l.map fun y => toPy (enc y)) = toPy (enc (minBy lt x l))
  | [], x => rfl
  | y :: l, x => by
    have ih := minBy_py o l (if lt y x = true then y else x)
    unfold minD minBy at *
    rw [List.map_cons, List.foldl_cons, List.foldl_cons, o.lt, ← ih]
    congr 1
    split <;> rfl
theorem toPys_map (l : List α) : toPys (l.map enc) = l.map fun y => toPy (enc y) := by
  induction l with
  | nil => simp [toPys]
  | cons x l ih => simp [toPys, ih]
theorem Odr.ns (o : Odr enc k lt) : ∀ l : List α, noRs (l.map enc) = true
  | [] => by simp [noRs]
  | x :: l => by simp [noRs, o.n x, o.ns l]
theorem Odr.ds (o : Odr enc k lt) : ∀ l : List α, PyData.depthAll (l.map fun y => toPy (enc y)) ≤ k
  | [] => by simp [PyData.depthAll]
  | x :: l => by
    have h1 := o.d x
    have h2 := o.ds l
    simp only [List.map_cons, PyData.depthAll]
    omega
theorem cd_minLX (o : Odr enc k lt) (inj : ∀ a b, toPy (enc a) = toPy (enc b) → a = b) {l : List α} (hk : k ≤ 60 := by decide) : CD C (rMinLD K) [.lst ((x :: l).map enc)] (enc (minBy lt x l)) := fun xs F H Q e r q => by
  obtain ⟨v, rfl, r1⟩ := r.one
  obtain ⟨a, ys, rfl, hs, ra⟩ := r1.inj_lst
  have hd := RpAll.dp (K := K) _ (o.ns (x :: l)) (ra.to e)
  rw [toPys_map, List.map_cons] at hd
  refine ⟨a, ys, _, _, rfl, .of (e _ _ hs), hd, ⟨fun p hp q hq => ?_, fun p hp => ?_⟩, Nat.le_trans (o.ds (x :: l)) hk, fun i z hz hm => ?_⟩
  · obtain ⟨p', _, rfl⟩ := List.mem_map.mp (show p ∈ (x :: l).map fun y => toPy (enc y) from hp)
    obtain ⟨q', _, rfl⟩ := List.mem_map.mp (show q ∈ (x :: l).map fun y => toPy (enc y) from hq)
    exact o.al _ _
  · obtain ⟨p', _, rfl⟩ := List.mem_map.mp (show p ∈ (x :: l).map fun y => toPy (enc y) from hp)
    exact o.nn _
  · obtain ⟨d, hd, rz⟩ := ra.get hz
    rw [minBy_py o] at hm
    rw [List.getElem?_map] at hd
    obtain ⟨w, hw, rfl⟩ := Option.map_eq_some_iff.mp hd
    have hm : ((x :: l).map fun y => toPy (enc y))[i]? = some (toPy (enc (minBy lt x l))) := hm
    rw [List.getElem?_map, hw] at hm
    have := inj _ _ (Option.some.inj hm)
    exact q z F H (.refl e) (this ▸ rz)
end
section
variable {X : Cx} {C : Addr} {ρ : DE} {M : Mem} {a b : Expr} {pos : Pos} {α : Type} {enc : α → Dt} {k n : Nat} {lt : α → α → Bool} {x y : α}
theorem et_ltX (o : Odr enc k lt) (hr : Room n X.A) (ha : Ev X C ρ M a (enc x)) (hb : Ev X C ρ M b (enc y)) (hk : k ≤ 60 := by decide) : EvT X C ρ M (.Compare a [.Lt] [b] pos) (lt x y) :=
  et_cmp (op_ltD hr.units) (fun v u F H Q e r1 r2 q => ⟨_, _, Rp.dp _ (o.n x) (r1.to e), Rp.dp _ (o.n y) (r2.to e), o.al _ _, o.nn _, Nat.le_trans (o.d x) hk, by rw [o.lt]; exact q _ F H (.refl e) (.bl _)⟩) ha hb (nomark _)
theorem et_leX (o : Odr enc k lt) (hr : Room n X.A) (ha : Ev X C ρ M a (enc x)) (hb : Ev X C ρ M b (enc y)) (hk : k ≤ 60 := by decide) : EvT X C ρ M (.Compare a [.LtE] [b] pos) (!lt y x) :=
  et_cmp (op_leD hr.units) (fun v u F H Q e r1 r2 q => ⟨_, _, Rp.dp _ (o.n x) (r1.to e), Rp.dp _ (o.n y) (r2.to e), o.al _ _, o.nn _, Nat.le_trans (o.d x) hk, by rw [o.lt]; exact q _ F H (.refl e) (.bl _)⟩) ha hb (nomark _)
end
/-! ### the orders -/
def ltPr (p q : Pr) : Bool := decide (p.1 < q.1) || (decide (p.1 = q.1) && decide (p.2 < q.2))
theorem toks_ii (a b c d : Int) : dataLt (.tuple [.int a, .int b]) (.tuple [.int c, .int d]) = ltPr (a, b) (c, d) := by
  rw [dataLt_tuple]
  by_cases h : a = c
  · subst h
    rw [dataLt_all_yes (by simp [alike]) (by simp [PyData.eqv])]
    by_cases h2 : b = d
    · subst h2
      rw [dataLt_all_yes (by simp [alike]) (by simp [PyData.eqv])]
      simp [ltPr, keyToksAll, PyProof.Rows.lexLt]
      try rfl
    · rw [dataLt_all_no (by simp [alike]) (by simp [PyData.eqv, h2]), dataLt_int]
      simp [ltPr]
  · rw [dataLt_all_no (by simp [alike]) (by simp [PyData.eqv, h]), dataLt_int]
    simp [ltPr, h]
theorem odr_pr : Odr dPr 1 ltPr := ⟨fun x => cpr_pr.n x, fun x y => by simp [dPr, toPy, toPys, alike, alikeAll], fun x => by simp [dPr, toPy], fun x => cpr_pr.d x, fun x y => by
  simp only [dPr, toPy, toPys]
  exact toks_ii _ _ _ _⟩
end BR
/-! BrN: expressions that change or make objects, by data. -/
namespace BR
open PySem PySem.Spec PyProof.Rows L2
def tK (C : Addr) (ρ : DE) (M : Mem) (k : Dt → Mem → Prop) : TE := fun σ H Q => ∃ Fb Hb F, Bs Fb Hb M F H ∧ En C F ρ M σ H ∧ ∀ v d M' F' H', k d M' → Same F F' → Bs Fb Hb M' F' H' → En C F' ρ M' σ H' → Rp C F' v d → Q v H'
def tKA (C : Addr) (ρ : DE) (M : Mem) (k : List Dt → Mem → Prop) : TA := fun σ H Q => ∃ Fb Hb F, Bs Fb Hb M F H ∧ En C F ρ M σ H ∧ ∀ vs ds M' F' H', k ds M' → Same F F' → Bs Fb Hb M' F' H' → En C F' ρ M' σ H' → RpAll C F' vs ds → Q vs H'
def tKT (C : Addr) (ρ : DE) (M : Mem) (k : Bool → Mem → Prop) : TT := fun σ H Q => ∃ Fb Hb F, Bs Fb Hb M F H ∧ En C F ρ M σ H ∧ ∀ b M' F' H', k b M' → Same F F' → Bs Fb Hb M' F' H' → En C F' ρ M' σ H' → Q b H'
def EvK (X : Cx) (C : Addr) (ρ : DE) (M : Mem) (e : Expr) (k : Dt → Mem → Prop) : Prop := PE X e (tK C ρ M k)
def EvKA (X : Cx) (C : Addr) (ρ : DE) (M : Mem) (es : List Expr) (k : List Dt → Mem → Prop) : Prop := PA X es (tKA C ρ M k)
def EvKT (X : Cx) (C : Addr) (ρ : DE) (M : Mem) (e : Expr) (k : Bool → Mem → Prop) : Prop := PT X e (tKT C ρ M k)
section
variable {X : Cx} {C : Addr} {ρ : DE} {M : Mem} {P : Po} {a b e : Expr} {es : List Expr} {d : Dt} {ds : List Dt} {k : Dt → Mem → Prop} {pos : Pos}
/-- any of them -/
def tKany (X : Cx) (C : Addr) (e : Expr) : TE := fun σ H Q => ∃ ρ M k, EvK X C ρ M e k ∧ tK C ρ M k σ H Q
theorem pe_kany : PE X e (tKany X C e) := ⟨fun pins s σ H Q I ⟨ρ, M, k, h, t⟩ => h.run pins s σ H Q I t⟩
def tKAany (X : Cx) (C : Addr) (es : List Expr) : TA := fun σ H Q => ∃ ρ M k, EvKA X C ρ M es k ∧ tKA C ρ M k σ H Q
theorem pa_kany : PA X es (tKAany X C es) := ⟨fun po pins s σ H Q I ⟨ρ, M, k, h, t⟩ => h.run po pins s σ H Q I t⟩
theorem ek_p (h : Ev X C ρ M e d) (hk : k d M) : EvK X C ρ M e k := PE.imp h fun σ H Q ⟨Fb, Hb, F, b, I, q⟩ => ⟨F, I, fun v F1 H1 e1 r => q v d M F1 H1 hk e1.f (b.ext e1) (I.ext e1) r⟩
theorem push_bs {Fb Hb F H F1 H1 : Hp} {p : Addr} {d : Dt} (b : Bs Fb Hb M F H) (e1 : Ext F H F1 H1) (hp : H p = none) : Bs Fb Hb (M ++ [(p, d)]) F1 H1 := ⟨b.x.trans e1, fun j q u hj => by
  rw [List.getElem?_append] at hj
  split at hj
  · exact b.n j q u hj
  · rw [List.getElem?_singleton] at hj
    split at hj
    · cases hj
      exact b.x.free hp
    · cases hj⟩
theorem push_en {F H F1 H1 : Hp} {σ : L2.St} {p : Addr} {h : HO} {d : Dt} (I : En C F ρ M σ H) (e1 : Ext F H F1 H1) (hp : H p = none) (hf : F1 p = none) (hH : H1 p = some h) (r : RepO C F1 h d) : En C F1 ρ (M ++ [(p, d)]) σ H1 := by
  have I1 := I.ext e1
  refine ⟨I1.fh, I1.len, I1.sl, I1.m.push hf hH r fun j q u hj z => ?_⟩
  obtain ⟨_, o, ho, _⟩ := I.m.m j q u hj
  rw [z, hp] at ho
  cases ho
/-- a new list that will change -/
theorem ek_n (h : EvN X C ρ M e ds) (hk : ∀ p, k (.ref p) (M ++ [(p, .lst ds)])) : EvK X C ρ M e k := PE.imp h fun σ H Q ⟨Fb, Hb, F, b, I, q⟩ => ⟨F, I, fun p xs F1 H1 hp e1 hf hH r =>
  q _ _ _ F1 H1 (hk p) e1.f (push_bs b e1 hp) (push_en I e1 hp hf hH ⟨xs, rfl, r⟩) (.ref p)⟩
/-- {} -/
theorem ek_d0 (hk : ∀ p, k (.ref p) (M ++ [(p, .dct [] [])])) : EvK X C ρ M (.Dict [] [] pos) k := PE.imp pe_dnewT fun σ H Q ⟨Fb, Hb, F, b, I, q⟩ => fun p hp => by
  have e1 : Ext F H F (upd H p (.dT [])) := .newH I.fh hp
  exact q _ _ _ F _ (hk p) (.refl F) (push_bs b e1 hp) (push_en I e1 hp (I.fh.free hp) upd_same ⟨[], rfl, rfl, .nil⟩) (.ref p)
/-! operators -/
theorem tOpK {r : R2} {σ : L2.St} {H : Hp} {Q : VK} (h : tK C ρ M k σ H Q) : tOp r (tK C ρ M fun d1 M1 => EvK X C ρ M1 b fun d2 M2 => ∃ d, OD C r d1 d2 d ∧ k d M2) (tKany X C b) σ H Q := by
  obtain ⟨Fb, Hb, F, bs, I, q⟩ := h
  refine ⟨Fb, Hb, F, bs, I, fun x d1 M1 F1 H1 h1 s1 b1 I1 r1 => ⟨ρ, M1, _, h1, Fb, Hb, F1, b1, I1, fun y d2 M2 F2 H2 ⟨d, od, hk⟩ s2 b2 I2 r2 => ?_⟩⟩
  exact od x y F2 H2 Q I2.fh (r1.to s2) r2 fun v F3 H3 e3 r3 => q v d M2 F3 H3 hk ((s1.trans s2).trans e3.f) (b2.ext e3) (I2.ext e3) r3
theorem ek_op {op : Operator} {r : R2} (ho : OpR X (binaryOp op) r) (ha : EvK X C ρ M a fun d1 M1 => EvK X C ρ M1 b fun d2 M2 => ∃ d, OD C r d1 d2 d ∧ k d M2) : EvK X C ρ M (.BinOp a op b pos) k := PE.imp (pe_op ho ha pe_kany) fun _ _ _ h => tOpK h
theorem ek_cmp {op : CmpOp} {r : R2} (ho : OpR X (compareOp op) r) (ha : EvK X C ρ M a fun d1 M1 => EvK X C ρ M1 b fun d2 M2 => ∃ d, OD C r d1 d2 d ∧ k d M2) (hm : behindInMarks op b = false := by first | exact nomark _ | rfl) : EvK X C ρ M (.Compare a [op] [b] pos) k := PE.imp (pe_cmpR ho ha pe_kany hm) fun _ _ _ h => tOpK h
theorem ekt_cmp {kt : Bool → Mem → Prop} {op : CmpOp} {r : R2} (ho : OpR X (compareOp op) r) (ha : EvK X C ρ M a fun d1 M1 => EvK X C ρ M1 b fun d2 M2 => ∃ b, OD C r d1 d2 (.bl b) ∧ kt b M2) (hm : behindInMarks op b = false := by first | exact nomark _ | rfl) : EvKT X C ρ M (.Compare a [op] [b] pos) kt :=
  PT.imp (pt_cmpR ho (PE.imp ha fun σ H Q ⟨Fb, Hb, F, bs, I, q⟩ => ⟨Fb, Hb, F, bs, I, fun v d M' F' H' hh s1 b1 I1 r1 => q v d M' F' H' (show EvK X C ρ M' b fun d2 M2 => ∃ d', OD C r d d2 d' ∧ ∃ b, d' = .bl b ∧ kt b M2 from PE.imp hh fun σ H Q ⟨Fb, Hb, F, bs, I, q⟩ => ⟨Fb, Hb, F, bs, I, fun v d M' F' H' ⟨b, od, hk⟩ => q v d M' F' H' ⟨_, od, b, rfl, hk⟩⟩) s1 b1 I1 r1⟩) pe_kany hm) fun σ H Q ⟨Fb, Hb, F, bs, I, q⟩ =>
    tOpK ⟨Fb, Hb, F, bs, I, fun v d M' F' H' ⟨b, e, hk⟩ s1 b1 I1 r1 => by
      subst e
      exact ⟨b, r1.inj_bl, q b M' F' H' hk s1 b1 I1⟩⟩
theorem ek_ixL {i : Int} (ha : EvK X C ρ M a fun d1 M1 => EvK X C ρ M1 b fun d2 M2 => ∃ d, OD C (rIxL X.K) d1 d2 d ∧ k d M2) (hs : PlainIx b := by intro _ _; rfl) : EvK X C ρ M (.Subscript a b pos) k := PE.imp (pe_ix ix_list ha pe_kany hs) fun _ _ _ h => tOpK h
/-! argument lists -/
variable {ka : List Dt → Mem → Prop}
theorem eka_nil (h : ka [] M) : EvKA X C ρ M [] ka := PA.imp pa_nil fun σ H Q ⟨Fb, Hb, F, b, I, q⟩ => q [] [] M F H h (.refl F) b I .nil
theorem eka_cons (h : EvK X C ρ M e fun d M1 => EvKA X C ρ M1 es fun ds M2 => ka (d :: ds) M2) (hs : starEach (e :: es) X.env = (false, eval e X.env) :: starEach es X.env := by rfl) : EvKA X C ρ M (e :: es) ka :=
  PA.imp (pa_cons h pa_kany hs) fun σ H Q ⟨Fb, Hb, F, bs, I, q⟩ => ⟨Fb, Hb, F, bs, I, fun v d M1 F1 H1 h1 s1 b1 I1 r1 => ⟨ρ, M1, _, h1, Fb, Hb, F1, b1, I1, fun vs ds M2 F2 H2 h2 s2 b2 I2 r2 => q (v :: vs) (d :: ds) M2 F2 H2 h2 (s1.trans s2) b2 I2 (.cons (r1.to s2) r2)⟩⟩
theorem eka_p (h : EvA X C ρ M es ds) (hk : ka ds M) : EvKA X C ρ M es ka := PA.imp h fun σ H Q ⟨Fb, Hb, F, b, I, q⟩ => ⟨F, I, fun v F1 H1 e1 r => q v ds M F1 H1 hk e1.f (b.ext e1) (I.ext e1) r⟩
theorem ek_tup {x1 : Nat} (h : EvKA X C ρ M es fun ds M' => ds.length ≤ 1000 ∧ k (.tup ds) M') : EvK X C ρ M (.Tuple es x1 pos) k :=
  PE.imp (pe_tup h) fun σ H Q ⟨Fb, Hb, F, b, I, q⟩ => ⟨Fb, Hb, F, b, I, fun vs ds M1 F1 H1 ⟨hl, hk⟩ s1 b1 I1 r1 => ⟨by rw [r1.length]; exact Nat.le_trans hl (by decide), fun p hp => by
    have e2 : Ext F1 H1 (upd F1 p (.tup vs)) (upd H1 p (.tup vs)) := .new I1.fh hp
    exact q _ _ M1 _ _ hk (s1.trans e2.f) (b1.ext e2) (I1.ext e2) (.tup upd_same (r1.to e2.f))⟩⟩
/-- a list display, looked at alone -/
theorem ek_lst (h : EvKA X C ρ M es fun ds M' => ds.length ≤ 1000 ∧ k (.lst ds) M') : EvK X C ρ M (.List es pos) k :=
  PE.imp (pe_lst h) fun σ H Q ⟨Fb, Hb, F, b, I, q⟩ => ⟨Fb, Hb, F, b, I, fun vs ds M1 F1 H1 ⟨hl, hk⟩ s1 b1 I1 r1 => ⟨by rw [r1.length]; exact Nat.le_trans hl (by decide), fun p hp => by
    have e2 : Ext F1 H1 (upd F1 p (.lst vs)) (upd H1 p (.lst vs)) := .new I1.fh hp
    exact q _ _ M1 _ _ hk (s1.trans e2.f) (b1.ext e2) (I1.ext e2) (.lst upd_same (r1.to e2.f))⟩⟩
end
/-! ### callees that change their first argument, a list -/
def spMut (C : Addr) (R : List Dt → List Dt → Dt → List Dt → Prop) : Sp := fun vs H Q _ => ∃ (p : Addr) (us : List V) (F : Hp) (xs : List V) (ds es : List Dt) (d : Dt) (ds' : List Dt), vs = .ref p :: us ∧ Same F H ∧ F p = none ∧ H p = some (.lst xs) ∧ RpAll C F xs ds ∧ RpAll C F us es ∧ R ds es d ds' ∧
  ∀ v F' H' xs', Ext F (wo H p) F' H' → F' p = none → H' p = some (.lst xs') → RpAll C F' xs' ds' → Rp C F' v d → Q v H'
structure CalM (P : Program) (w : World) (K : PySem.W.Frag) (mg : Str → Option Value) (base : Heap) (C : Addr) (k : Nat) (x : Str) (R : List Dt → List Dt → Dt → List Dt → Prop) : Prop where
  ex : ∃ (f : Addr) (fd : FuncData) (ps : List Str), FnOk P w K mg base CX0 k f fd ps (spMut C R) ∧ mg x = some (.ref f) ∧ PySem.W.keepIn K (.ref f) = true ∧ Binds K fd ps []
theorem calM {P : Program} {w : World} {K : PySem.W.Frag} {mg : Str → Option Value} {base : Heap} {C : Addr} {k : Nat} {x : Str} {st : Stmt} {f : Addr} {fd : FuncData} {N : List Str} {p0 : Str} {ps : List Str} {R : List Dt → List Dt → Dt → List Dt → Prop} (F : Fun K x x st f fd) (S : FnScope N (p0 :: ps) (defScope st)) (hm : mg x = some (.ref f))
    (hb : ∀ (kV doc pm : Value) (an : Option Addr) (cdv ct : Value) (us : List Value), us.length = (p0 :: ps).length → bindArgs (PySem.W.fnOf x x (defArgs st) (defBody st) (defScope st) .none kV doc pm an cdv ct) ⟨us, []⟩ = pure ((p0 :: ps).zip us))
    (hl : ∀ ds es d ds', R ds es d ds' → es.length = ps.length)
    (body : ∀ (cdv : Value) (A : Around) (outer : List Env) (s : Shared) (H : Hp) (E : XK) (p : Addr) (ds es : List Dt) (d : Dt) (ds' : List Dt), Room k (A.deeper (envOfC x (defScope st) s.heap.objs.size f cdv)) → R ds es d ds' →
      SDs (cxOf CX0 P w K mg base N x (defScope st) f cdv A outer s H E).nox C (defBody st) (en0 N (.ref p :: es)) [(p, .lst ds)] { nx := fun _ M' => d = .non ∧ ∃ n : Nat, M'[n]? = some (p, Dt.lst ds'), rt := fun d' M' => d' = d ∧ ∃ n : Nat, M'[n]? = some (p, Dt.lst ds') }) : CalM P w K mg base C (k + 1) x R := by
  refine ⟨f, fd, p0 :: ps, F.ok S (fun vs H Q E ⟨p, us, F, xs, ds, es, d, ds', e, _, _, _, _, r, h, _⟩ => by rw [e, List.length_cons, r.length, hl _ _ _ _ h, List.length_cons]) fun cdv A outer s H vs Q E hr ⟨p, us, Fc, xs, ds, es, d, ds', e, sm, hf, hH, rx, ru, h, q⟩ => ?_, hm, F.kp, F.binds hb⟩
  subst e
  have r : RpAll C Fc (.ref p :: us) (.ref p :: es) := .cons (.ref p) ru
  refine ⟨_, body cdv A outer s H E p ds es d ds' hr h, Fc, wo H p, Fc, ⟨ext_d0 sm, fun i q u hi => ?_⟩, ⟨sm, ?_, fun i d hi => en0_sl r hi, ⟨fun i q u hi => ?_, by simp⟩⟩, ?_⟩
  · rw [List.getElem?_singleton] at hi
    split at hi
    · cases hi; exact wo_same
    · cases hi
  · unfold L2.start en0
    rw [List.length_append, List.length_append, List.length_map, List.length_map, List.length_replicate, List.length_replicate, r.length]
  · rw [List.getElem?_singleton] at hi
    split at hi
    · cases hi; exact ⟨hf, _, hH, xs, rfl, rx⟩
    · cases hi
  · refine ⟨fun ρ M σ F1 H1 ⟨hd, n, hn⟩ b I => ?_, fun _ _ _ _ _ z => z.elim, fun _ _ _ _ _ z => z.elim, fun v d' M F1 H1 ⟨hd, n, hn⟩ b m r' => ?_⟩
    · subst hd
      obtain ⟨f1, h1, hh, xs', rfl, rx'⟩ := I.m.m n p _ hn
      exact q .non F1 H1 xs' b.x f1 hh rx' .non
    · subst hd
      obtain ⟨f1, h1, hh, xs', rfl, rx'⟩ := m.m n p _ hn
      exact q v F1 H1 xs' b.x f1 hh rx' r'
section
variable {X : Cx} {C : Addr} {ρ : DE} {M : Mem} {P : Po} {e : Expr} {es : List Expr} {k : Dt → Mem → Prop} {p pos : Pos} {x : Str}
theorem ek_callM {n j : Nat} {R : List Dt → List Dt → Dt → List Dt → Prop} (c : CalM X.prog X.w X.K X.mg X.base C n x R) (hr : Room j X.A) (ha : EvKA X C ρ M (e :: es) fun ds M1 => ∃ q m l us d l', ds = .ref q :: us ∧ M1[m]? = some (q, .lst l) ∧ R l us d l' ∧ k d (M1.set m (q, .lst l'))) (hk : n ≤ j := by first | assumption | decide) (hg : Gl X x := by rfl)
    (hdb : (x == ("__debug__" : Str)) = false := by decide) (he : starEach (e :: es) X.env = (false, eval e X.env) :: starEach es X.env := by rfl) (hpl : ((backTo pos (starEach es X.env)).any fun x => x.1) = false := by rfl) : EvK X C ρ M (.Call (.Name x p) (e :: es) [] pos) k := by
  obtain ⟨f, fd, ps, F, hm, kp, b⟩ := c.ex
  refine PE.imp (pe_call F (hr.mono hk) hg hm kp b .nil pass0 ha hdb he hpl) fun σ H Q ⟨Fb, Hb, F, bs, I, q⟩ => ⟨Fb, Hb, F, bs, I, fun vs ds M1 F1 H1 ⟨a, m, l, us, d, l', e1, hM, hR, hk⟩ s1 b1 I1 r1 => ?_⟩
  subst e1
  obtain ⟨v, vs', rfl, rv, rs⟩ := r1.cons_inv
  rw [rv.inj_ref]
  obtain ⟨f1, h1, hh, xs, rfl, rx⟩ := I1.m.m m a _ hM
  show spMut C R (V.ref a :: vs' ++ []) H1 Q E0
  rw [List.append_nil]
  refine ⟨a, vs', F1, xs, l, us, d, l', rfl, I1.fh, f1, hh, rx, rs, hR, fun v F2 H2 xs' e2 f2 hh2 rx2 rv2 => ?_⟩
  have hml : m < M1.length := (List.getElem?_eq_some_iff.mp hM).1
  have hb0 := b1.n m a _ hM
  have ne : ∀ (j : Nat) q u, M1[j]? = some (q, u) → m ≠ j → q ≠ a := fun j q u hj hne z => by
    subst z
    have a1 : (M1.map (·.1))[j]? = some q := by rw [List.getElem?_map, hj]; rfl
    have a2 : (M1.map (·.1))[m]? = some q := by rw [List.getElem?_map, hM]; rfl
    exact hne (nd_ix I1.m.nd a1 a2).symm
  have keep : ∀ c o, c ≠ a → H1 c = some o → H2 c = some o := fun c o hc ho => e2.h c o (by rw [wo_ne hc]; exact ho)
  have m2 : MOk C F2 H2 (M1.set m (a, .lst l')) := by
    refine ⟨fun j q u hj => ?_, ?_⟩
    · by_cases hjm : m = j
      · subst hjm
        rw [List.getElem?_set_self hml] at hj
        cases hj
        exact ⟨f2, _, hh2, xs', rfl, rx2⟩
      · rw [List.getElem?_set_ne hjm] at hj
        obtain ⟨g1, g, g2, g3⟩ := I1.m.m j q u hj
        have hqa := ne j q u hj hjm
        refine ⟨?_, g, keep q g hqa g2, g3.to e2.f⟩
        rw [e2.old q ⟨g, by rw [wo_ne hqa, g2], g3.solid⟩]
        exact g1
    · have : (M1.set m (a, Dt.lst l')).map (·.1) = M1.map (·.1) := by
        rw [List.map_set]
        have hp : (M1.map (·.1))[m]? = some a := by rw [List.getElem?_map, hM]; rfl
        obtain ⟨h1, h2⟩ := List.getElem?_eq_some_iff.mp hp
        show (M1.map (·.1)).set m a = _
        rw [← h2]
        exact List.set_getElem_self h1
      rw [this]
      exact I1.m.nd
  have b2 : Bs Fb Hb (M1.set m (a, .lst l')) F2 H2 := by
    refine ⟨⟨fun c o hc => keep c o (fun z => by rw [z, hb0] at hc; cases hc) (b1.x.h c o hc), b1.x.f.trans e2.f, e2.fh, fun c hc => ?_⟩, fun j q u hj => ?_⟩
    · have hca : c ≠ a := fun z => hc.ne (by rw [z]; exact hb0)
      rw [e2.old c (by rw [wo_ne hca]; exact hc.same b1.x.h), b1.x.old c hc]
    · by_cases hjm : m = j
      · subst hjm
        rw [List.getElem?_set_self hml] at hj
        cases hj
        exact hb0
      · rw [List.getElem?_set_ne hjm] at hj
        exact b1.n j q u hj
  exact q v d _ F2 H2 hk (s1.trans e2.f) b2 (sl_old I1 e2.f e2.fh m2) rv2
/-! statements -/
theorem sd_exprK (he : EvK X C ρ M e fun _ M' => P.nx ρ M') (hs : swapsWith e none pos.line X.env = pure false := by rfl) : SD X C (.Expr e pos) ρ M P :=
  PS.imp (ps_expr he hs) fun D σ H ⟨Fb, Hb, F, b, I, q⟩ => ⟨Fb, Hb, F, b, I, fun v d M' F' H' h s b' I' r => q.nx ρ M' σ F' H' h b' I'⟩
theorem sd_setK (i : Nat) {x : Str} {pos' : Pos} (he : EvK X C ρ M e fun d M' => P.nx (ρ.set i (some d)) M') (hN : X.N.Nodup) (hi : X.N[i]? = some x := by rfl) (hx : L2.Loc X.env.scope x := by first | exact Or.inl rfl | exact Or.inr rfl) (hs : swapsWith e (some (.Name x pos')) pos.line X.env = pure false := by rfl)
    (hf : X.fn x = true ∨ X.env.scope.names.lookup x = some .local := by first | exact .inl rfl | exact .inr rfl | assumption) : SD X C (.Assign [.Name x pos'] e pos) ρ M P :=
  PS.imp (ps_set hN hi hx he hs hf) fun D σ H ⟨Fb, Hb, F, b, I, q⟩ => ⟨Fb, Hb, F, b, I, fun v d M' F' H' h s b' I' r => q.nx _ M' _ F' H' h b' (I'.set r)⟩
theorem sd_retK (he : EvK X C ρ M e fun d M' => P.rt d M') : SD X C (.Return (some e) pos) ρ M P :=
  PS.imp (ps_ret he) fun D σ H ⟨Fb, Hb, F, b, I, q⟩ => ⟨Fb, Hb, F, b, I, fun v d M' F' H' h s b' I' r => q.rt v d M' F' H' h b' I'.m r⟩
theorem sd_ifK {c : Expr} {s1 s2 : List Stmt} (hc : EvKT X C ρ M c fun b M' => (b = true → SDs X C s1 ρ M' P) ∧ (b = false → SDs X C s2 ρ M' P)) : SD X C (.If c s1 s2 pos) ρ M P :=
  PS.imp (ps_if hc (pss_any (C := C)) (pss_any (C := C))) fun D σ H ⟨Fb, Hb, F, b, I, q⟩ => ⟨Fb, Hb, F, b, I, fun k M' F' H' ⟨h1, h2⟩ s b' I' => by
    cases k with
    | true =>
      rw [if_pos rfl]
      exact ⟨ρ, M', P, h1 rfl, Fb, Hb, F', b', I', q⟩
    | false =>
      rw [if_neg Bool.false_ne_true]
      exact ⟨ρ, M', P, h2 rfl, Fb, Hb, F', b', I', q⟩⟩
theorem sd_asgK {tg : Expr} {st : Stor} {sl : List Nat} (he : EvK X C ρ M e fun d M' => ∃ ρ', st ρ d = some ρ' ∧ P.nx ρ' M') (hg : EvG (Xq X) C tg st sl) (hs : swapsWithSole [tg] e pos.line X.env = pure false := by rfl) (hw : swappedStores [tg] e X.env = pure none := by rfl)
    (h1 : (assignEach [tg] X.env).map (·.2) = [assign tg X.env] := by rfl) : SD X C (.Assign [tg] e pos) ρ M P := by
  obtain ⟨g, g1, g2⟩ := hg.ex
  exact PS.imp (ps_asg he (g1 X rfl) hs hw h1) fun D σ H ⟨Fb, Hb, F, b, I, q⟩ => ⟨Fb, Hb, F, b, I, fun v d M' F' H' ⟨ρ', hst, h⟩ s b' I' r => g2 ρ ρ' M' d v F' H' σ _ hst I' r fun σ' I2 _ => q.nx ρ' M' σ' F' H' h b' I2⟩
theorem sd_parK (i j : Nat) {a b : Expr} {x y : Str} {px py pt : Pos} {kt k2 : Nat} {pt2 : Pos} (ha : EvKA X C ρ M [a, b] fun ds M' => ∃ d1 d2, ds = [d1, d2] ∧ P.nx ((ρ.set i (some d1)).set j (some d2)) M') (hN : X.N.Nodup) (hi : X.N[i]? = some x := by rfl) (hj : X.N[j]? = some y := by rfl) (hij : i ≠ j := by decide)
    (hx : X.env.scope.names.lookup x = some .local := by rfl) (hy : X.env.scope.names.lookup y = some .local := by rfl) (hc : X.calm = true := by rfl)
    (hw : swappedStores [.Tuple [.Name x px, .Name y py] kt pt] (.Tuple [a, b] k2 pt2) X.env = pure (some [x, y]) := by rfl)
    (hs : swapsWithSole [.Tuple [.Name x px, .Name y py] kt pt] (.Tuple [a, b] k2 pt2) pos.line X.env = pure false := by rfl) : SD X C (.Assign [.Tuple [.Name x px, .Name y py] kt pt] (.Tuple [a, b] k2 pt2) pos) ρ M P :=
  PS.imp (ps_par hc hN hi hj hij hx hy ha hw hs) fun D σ H ⟨Fb, Hb, F, b, I, q⟩ => ⟨Fb, Hb, F, b, I, fun vs ds M' F' H' ⟨d1, d2, e, h⟩ s b' I' r => by
    subst e
    obtain ⟨v, u, rfl, r1, r2⟩ := r.two
    exact ⟨v, u, rfl, q.nx _ M' _ F' H' h b' ((I'.set r1).set r2)⟩⟩
theorem sd_par3K (i j l : Nat) {a b c : Expr} {x y z : Str} {px py pz pt : Pos} {kt k2 : Nat} {pt2 : Pos} (ha : EvKA X C ρ M [a, b, c] fun ds M' => ∃ d1 d2 d3, ds = [d1, d2, d3] ∧ P.nx (((ρ.set i (some d1)).set j (some d2)).set l (some d3)) M') (hN : X.N.Nodup) (hi : X.N[i]? = some x := by rfl) (hj : X.N[j]? = some y := by rfl) (hl : X.N[l]? = some z := by rfl) (hij : i ≠ j := by decide) (hil : i ≠ l := by decide) (hjl : j ≠ l := by decide)
    (hx : X.env.scope.names.lookup x = some .local := by rfl) (hy : X.env.scope.names.lookup y = some .local := by rfl) (hz : X.env.scope.names.lookup z = some .local := by rfl) (hc : X.calm = true := by rfl)
    (hw : swappedStores [.Tuple [.Name x px, .Name y py, .Name z pz] kt pt] (.Tuple [a, b, c] k2 pt2) X.env = pure (some [x, y, z]) := by rfl)
    (hs : swapsWithSole [.Tuple [.Name x px, .Name y py, .Name z pz] kt pt] (.Tuple [a, b, c] k2 pt2) pos.line X.env = pure false := by rfl) : SD X C (.Assign [.Tuple [.Name x px, .Name y py, .Name z pz] kt pt] (.Tuple [a, b, c] k2 pt2) pos) ρ M P :=
  PS.imp (ps_par3 hc hN hi hj hl hij hil hjl hx hy hz ha hw hs) fun D σ H ⟨Fb, Hb, F, b, I, q⟩ => ⟨Fb, Hb, F, b, I, fun vs ds M' F' H' ⟨d1, d2, d3, e, h⟩ s b' I' r => by
    subst e
    obtain ⟨v, u, z, rfl, r1, r2, r3⟩ := r.three
    exact ⟨v, u, z, rfl, q.nx _ M' _ F' H' h b' (((I'.set r1).set r2).set r3)⟩⟩
end
end BR
/-! BrO: dicts keyed by squares, by data. -/
namespace BR
open PySem PySem.Spec PyProof.Rows L2
abbrev kP (p : Pr) : List Key := [.inl p.1, .inl p.2]
def dD {β : Type} (enc : β → Dt) (es : List (Pr × β)) : Dt := .dct (es.map fun kv => kP kv.1) (es.map fun kv => enc kv.2)
theorem kP_inj {p q : Pr} : kP p = kP q ↔ p = q := by
  constructor
  · intro h
    have h1 : (Sum.inl p.1 : Key) = .inl q.1 := (List.cons.inj h).1
    have h2 : (Sum.inl p.2 : Key) = .inl q.2 := (List.cons.inj (List.cons.inj h).2).1
    exact Prod.ext (Sum.inl.inj h1) (Sum.inl.inj h2)
  · intro h; rw [h]
theorem key_rep {C : Addr} {F : Hp} {y : V} {p : Pr} (r : Rp C F y (dPr p)) : ∃ b, y = .ref b ∧ F b = some (.tup ((kP p).map kV)) := by
  obtain ⟨a, xs, rfl, hs, ra⟩ := r.inj_tup
  obtain ⟨v, u, rfl, r1, r2⟩ := ra.two
  rw [r1.inj_int, r2.inj_int] at hs
  exact ⟨a, rfl, hs⟩
section
variable {β : Type} {enc : β → Dt} {C : Addr} {F : Hp}
theorem val_rep : ∀ {es : List (Pr × β)} {kvs : List (List Key × V)} (p : Pr), kvs.map (·.1) = es.map (fun kv => kP kv.1) → RpAll C F (kvs.map (·.2)) (es.map fun kv => enc kv.2) →
    (gt es p = none ∧ valV kvs (kP p) = none) ∨ ∃ b v, gt es p = some b ∧ valV kvs (kP p) = some v ∧ Rp C F v (enc b)
  | [], [], p, _, _ => .inl ⟨rfl, rfl⟩
  | [], _ :: _, _, h, _ => by simp at h
  | _ :: _, [], _, h, _ => by simp at h
  | e :: es, kv :: kvs, p, h, r => by
    rw [List.map_cons, List.map_cons] at h
    injection h with h1 h2
    rw [List.map_cons, List.map_cons] at r
    obtain ⟨v, vs, e1, rv, rs⟩ := r.cons_inv
    injection e1 with e1 e2
    subst e1 e2
    by_cases hp : e.1 = p
    · refine .inr ⟨e.2, kv.2, ?_, ?_, rv⟩
      · unfold gt; rw [if_pos hp]
      · exact valV_pos (h1.trans (kP_inj.mpr hp))
    · have hn : ¬ kv.1 = kP p := fun z => hp (kP_inj.mp (h1.symm.trans z))
      rw [valV_neg hn]
      unfold gt
      rw [if_neg hp]
      exact val_rep p h2 rs
theorem any_rep : ∀ {es : List (Pr × β)} {kvs : List (List Key × V)} (p : Pr), kvs.map (·.1) = es.map (fun kv => kP kv.1) → (kvs.any fun kv => decide (kv.1 = kP p)) = es.any fun kv => decide (kv.1 = p)
  | [], [], p, _ => rfl
  | [], _ :: _, _, h => by simp at h
  | _ :: _, [], _, h => by simp at h
  | e :: es, kv :: kvs, p, h => by
    rw [List.map_cons, List.map_cons] at h
    injection h with h1 h2
    rw [List.any_cons, List.any_cons, any_rep p h2, h1]
    congr 1
    exact decide_eq_decide.mpr kP_inj
theorem put_rep {es : List (Pr × β)} {kvs : List (List Key × V)} {p : Pr} {v : V} {b : β} (h : kvs.map (·.1) = es.map (fun kv => kP kv.1)) (r : RpAll C F (kvs.map (·.2)) (es.map fun kv => enc kv.2)) (rv : Rp C F v (enc b)) :
    (putK kvs (kP p) v).map (·.1) = (pt es p b).map (fun kv => kP kv.1) ∧ RpAll C F ((putK kvs (kP p) v).map (·.2)) ((pt es p b).map fun kv => enc kv.2) := by
  unfold putK pt
  rw [any_rep p h]
  by_cases hp : (es.any fun kv => decide (kv.1 = p)) = true
  · rw [if_pos hp, if_pos hp]
    clear hp
    induction es generalizing kvs with
    | nil =>
      cases kvs with
      | nil => exact ⟨rfl, .nil⟩
      | cons _ _ => simp at h
    | cons e es ih =>
      cases kvs with
      | nil => simp at h
      | cons kv kvs =>
        rw [List.map_cons, List.map_cons] at h
        injection h with h1 h2
        rw [List.map_cons, List.map_cons] at r
        obtain ⟨v', vs, e1, rv', rs⟩ := r.cons_inv
        injection e1 with e1 e2
        subst e1 e2
        obtain ⟨i1, i2⟩ := ih h2 rs
        by_cases hq : e.1 = p
        · have hk : kv.1 = kP p := h1.trans (kP_inj.mpr hq)
          simp only [List.map_cons, hq, hk, if_true]
          refine ⟨?_, .cons rv ?_⟩
          · simpa using i1
          · simpa using i2
        · have hk : ¬ kv.1 = kP p := fun z => hq (kP_inj.mp (h1.symm.trans z))
          simp only [List.map_cons, hq, hk, if_false]
          refine ⟨?_, .cons rv' ?_⟩
          · rw [h1]; simpa using i1
          · simpa using i2
  · rw [if_neg hp, if_neg hp, List.map_append, List.map_append, List.map_append, List.map_append, h]
    exact ⟨rfl, r.append (.cons rv .nil)⟩
end
section
variable {X : Cx} {C : Addr} {ρ : DE} {M : Mem} {P : Po} {o i e f : Expr} {d : Dt} {pos : Pos} {β : Type} {enc : β → Dt} {es : List (Pr × β)} {p : Pr} {b : β} {n : Nat}
theorem dD_inv {F : Hp} {v : V} (r : Rp C F v (dD enc es)) : ∃ a kvs, v = .ref a ∧ Rd F a (.dT kvs) ∧ kvs.map (·.1) = es.map (fun kv => kP kv.1) ∧ RpAll C F (kvs.map (·.2)) (es.map fun kv => enc kv.2) := r.inj_dct
theorem dget_of {F H : Hp} {a : Addr} {y : V} {kvs : List (List Key × V)} (e : Same F H) (h : Rd F a (.dT kvs)) (ry : Rp C F y (dPr p)) : DGet H a y (valV kvs (kP p)) := by
  obtain ⟨c, rfl, hc⟩ := key_rep ry
  exact .inr ⟨kvs, _, c, h.elim (fun z => .inl (e _ _ z)) fun ⟨o, z⟩ => .inr ⟨o, e _ _ z⟩, rfl, e _ _ hc, rfl⟩
theorem et_inD (hr : Room n X.A) (hi : Ev X C ρ M i (dPr p)) (ho : Ev X C ρ M o (dD enc es)) (hm : behindInMarks .In o = false := by rfl) : EvT X C ρ M (.Compare i [.In] [o] pos) (gt es p).isSome :=
  PT.imp (pt_cmp (pc_din (by have := hr.units; omega) hi ho) hm) fun σ H Q ⟨F, I, q⟩ => ⟨F, I, fun y F1 H1 e1 r1 => ⟨F1, I.ext e1, fun x F2 H2 e2 r2 => by
    obtain ⟨a, kvs, rfl, ha, hk, hv⟩ := dD_inv r2
    refine ⟨a, _, rfl, dget_of e2.fh ha (r1.to e2.f), ?_⟩
    have e : (valV kvs (kP p)).isSome = (gt es p).isSome := by
      rcases val_rep p hk hv with ⟨h1, h2⟩ | ⟨b, v, h1, h2, _⟩
      · rw [h1, h2]; rfl
      · rw [h1, h2]; rfl
    rw [e]
    exact ⟨_, rfl, q F2 H2 (e1.trans e2)⟩⟩⟩
theorem et_notinD (hr : Room n X.A) (hi : Ev X C ρ M i (dPr p)) (ho : Ev X C ρ M o (dD enc es)) (hm : behindInMarks .NotIn o = false := by rfl) : EvT X C ρ M (.Compare i [.NotIn] [o] pos) (!(gt es p).isSome) :=
  PT.imp (pt_cmp (pc_dnotin (by have := hr.units; omega) hi ho) hm) fun σ H Q ⟨F, I, q⟩ => ⟨F, I, fun y F1 H1 e1 r1 => ⟨F1, I.ext e1, fun x F2 H2 e2 r2 => by
    obtain ⟨a, kvs, rfl, ha, hk, hv⟩ := dD_inv r2
    refine ⟨a, _, rfl, dget_of e2.fh ha (r1.to e2.f), ?_⟩
    have e : (valV kvs (kP p)).isSome = (gt es p).isSome := by
      rcases val_rep p hk hv with ⟨h1, h2⟩ | ⟨b, v, h1, h2, _⟩
      · rw [h1, h2]; rfl
      · rw [h1, h2]; rfl
    rw [e]
    exact ⟨_, rfl, q F2 H2 (e1.trans e2)⟩⟩⟩
theorem ev_getD (hr : Room n X.A) (ho : Ev X C ρ M o (dD enc es)) (hi : Ev X C ρ M i (dPr p)) (hg : gt es p = some b) (hs : NoSl i := by intro _ _; rfl) : Ev X C ρ M (.Subscript o i pos) (enc b) :=
  PE.imp (pe_dget (by have := hr.units; omega) ho hi hs) fun σ H Q ⟨F, I, q⟩ => ⟨F, I, fun x F1 H1 e1 r1 => ⟨F1, I.ext e1, fun y F2 H2 e2 r2 => by
    obtain ⟨a, kvs, rfl, ha, hk, hv⟩ := dD_inv (r1.to e2.f)
    rcases val_rep p hk hv with ⟨h1, h2⟩ | ⟨b', v, h1, h2, h3⟩
    · rw [hg] at h1; cases h1
    · rw [hg] at h1
      cases h1
      have := dget_of e2.fh ha r2
      rw [h2] at this
      exact ⟨a, v, rfl, this, q v F2 H2 (e1.trans e2) h3⟩⟩⟩
/-- o[i] = e -/
theorem sd_putD (m : Nat) {q : Addr} {pos' : Pos} (hr : Room n X.A) (ho : Ev X C ρ M o (.ref q)) (hi : Ev X C ρ M i (dPr p)) (he : Ev X C ρ M e (enc b)) (hM : M[m]? = some (q, dD enc es)) (hl : es.length ≤ 100000) (h : P.nx ρ (M.set m (q, dD enc (pt es p b))))
    (hs : swapsWith e (some (.Subscript o i pos')) pos.line X.env = pure false := by rfl) : SD X C (.Assign [.Subscript o i pos'] e pos) ρ M P :=
  PS.imp (ps_dput (by have := hr.units; omega) ho hi he hs) fun D σ H ⟨Fb, Hb, F, bs, I, qq⟩ => ⟨F, I, fun v F1 H1 e1 r1 => ⟨F1, I.ext e1, fun x F2 H2 e2 r2 => ⟨F2, (I.ext e1).ext e2, fun y F3 H3 e3 r3 => by
    have I3 := ((I.ext e1).ext e2).ext e3
    rw [r2.inj_ref]
    obtain ⟨f1, h1, hh, kvs, rfl, hk, hv⟩ := I3.m.m m q _ hM
    obtain ⟨c, rfl, hc⟩ := key_rep r3
    have hz : kvs.length < sizeLine := by
      have : kvs.length = es.length := by
        have := congrArg List.length hk
        rwa [List.length_map, List.length_map] at this
      rw [this]
      exact Nat.lt_of_le_of_lt hl (by decide)
    refine ⟨q, _, rfl, DPut.t hh (e3.fh _ _ hc) hz, ?_⟩
    obtain ⟨k1, k2⟩ := put_rep (p := p) hk hv ((r1.to e2.f).to e3.f)
    exact qq.nx _ _ _ F3 _ h (chg_bs (C := C) (((bs.ext e1).ext e2).ext e3) I3.m hM) (chg_ok I3 hM ⟨_, rfl, k1, k2⟩)⟩⟩⟩
end
end BR
/-! BrW8: ends, the near form, what is open. -/
namespace BR
open PySem PySem.Spec PyProof.Rows L2
section
variable {P : Program} {w : World} {K : PySem.W.Frag} {mg : Str → Option Value} {base : Heap} {C : Addr}
def rEnds : List Dt → Dt → Prop := fun ds d => ∃ (f : Form) (o : Bool) (p q : Pr), (∀ n, (spansAt f n).length ≤ 1000) ∧ hasSq f o p = true ∧ hasSq f o q = true ∧ ds = [.reg (dForm f) o, dPr p, dPr q] ∧ d = .non
theorem c_check_ends {f : Addr} {fd : FuncData} (F : Fun K "check_ends" "check_ends" s_check_ends f fd) (hm : mg "check_ends" = some (.ref f)) (cR : CalD P w K mg base C 1 "check_region" rCkReg) (cS : CalD P w K mg base C 3 "is_square" rIsSq) (oH : OwnD P w K mg base C 5 "__contains__" rHas) : CalD P w K mg base C 6 "check_ends" rEnds :=
  calD F sc_check_ends hm (fun _ _ _ _ _ _ us hl => match us, hl with | [_, _, _], _ => rfl) (by rintro ds d ⟨f, o, p, q, _, _, _, rfl, _⟩; rfl) fun cdv A outer s H E ds d hr h => by
    obtain ⟨f, o, p, q, hl, hp, hq, rfl, rfl⟩ := h
    refine sds_cons (sd_expr (ev_call cR hr (ea_cons (ev_v 0) ea_nil) ⟨_, _, rfl, rfl⟩) ?_)
    refine sds_cons (sd_forS (xs := [p, q]) (enc := dPr) (ei_tup (ev_tup (ea_cons (ev_v 1) (ea_cons (ev_v 2) ea_nil)))) (eg_n 3 sc_check_ends.nd) (fun _ => [some (.reg (dForm f) o), some (dPr p), some (dPr q), none]) (fun _ => []) .refl rfl (fun pre x post e => ⟨_, rfl, ?_⟩) (sds_nil rfl))
    have hx : hasSq f o x = true := by
      have : x ∈ [p, q] := by rw [e]; simp
      rcases List.mem_cons.mp this with rfl | h
      · exact hp
      · rw [List.mem_singleton.mp h]; exact hq
    refine sds_cons (sd_if (EvW.t (ew_or (et_not (et_val (ev_call cS hr (ea_cons (ev_v 3) ea_nil) ⟨x, rfl, rfl⟩))) fun _ => ew_or1 (et_notinR oH hr (ev_v 3) (ev_v 0) ⟨f, o, x, hl _, rfl, rfl⟩))) (fun h => ?_) fun _ => sds_nil (sds_nil (nx_of rfl)))
    rw [hx] at h
    cases h
structure NearOk (f : Form) (p q : Pr) : Prop where
  b1 : SlabOk (endBoxes p q)
  m1 : MixOk (slabsOf (endBoxes p q)) f
  n : farForm f p q ≠ []
  l : (farForm f p q).length ≤ 1000
  s : ∀ s ∈ farForm f p q, s.2.2 ≠ []
  b2 : SlabOk [wideFrame (farForm f p q)]
  m2 : MixOk (slabsOf [wideFrame (farForm f p q)]) f
def rNear : List Dt → Dt → Prop := fun ds d => ∃ (f : Form) (o : Bool) (p q : Pr), (o = true → NearOk f p q) ∧ ds = [.reg (dForm f) o, dPr p, dPr q] ∧ d = dForm (nearForm f o p q)
theorem c_near_form {f : Addr} {fd : FuncData} (F : Fun K "near_form" "near_form" s_near_form f fd) (hm : mg "near_form" = some (.ref f)) (R : RCls K C) (cS : CalD P w K mg base C 2 "slabs_of" rSlabs) (cM : CalD P w K mg base C 3 "mixed" rMixed) (cW : CalD P w K mg base C 2 "wide_frame" rWide) : CalD P w K mg base C 4 "near_form" rNear :=
  calD F sc_near_form hm (fun _ _ _ _ _ _ us hl => match us, hl with | [_, _, _], _ => rfl) (by rintro ds d ⟨f, o, p, q, _, rfl, _⟩; rfl) fun cdv A outer s H E ds d hr h => by
    obtain ⟨f, o, p, q, hk, rfl, rfl⟩ := h
    refine sds_cons (sd_if (et_not (et_val (ev_out (o := o) R (ev_v 0)))) (fun h => sds_cons (sd_ret (ev_form (o := o) R (ev_v 0)) ?_)) fun h => sds_nil ?_)
    · cases o with
      | false => rfl
      | true => cases h
    cases o with
    | false => cases h
    | true =>
      have hk := hk rfl
      refine sds_cons (sd_setC 3 (el_lc1 (own := [("x", 5), ("y", 6)]) (xs := [p, q]) (enc := dPr) (f := fun s => dBox (s.1, s.2, s.1 + 1, s.2 + 1)) (ei_tup (ev_tup (ea_cons (ev_v 1) (ea_cons (ev_v 2) ea_nil)))) (eb_t (egs_cons (eb_n 5 sc_near_form.nd) (egs_cons (eb_n 6 sc_near_form.nd) egs_nil)))
        (fun g hg => ⟨_, rfl, fun _ _ _ _ _ => ev_tup (ea_cons (ev_v 5) (ea_cons (ev_v 6) (ea_cons (ev_add (ev_v 5) ev_int) (ea_cons (ev_add (ev_v 6) ev_int) ea_nil))))⟩) (by simp) sc_near_form.nd (blkOk_by (N := n_near_form) (sc := defScope s_near_form) (by decide +kernel))) ?_)
      refine sds_cons (sd_set 4 (ev_call cM hr (ea_cons (ev_call cS hr (ea_cons (ev_v 3) ea_nil) (hk.b1.r)) (ea_cons (ev_form (o := true) R (ev_v 0)) (ea_cons ev_str ea_nil))) (hk.m1.r .or)) ?_ sc_near_form.nd)
      refine sds_cons (sd_ret (ev_call cM hr (ea_cons (ev_call cS hr (ea_cons (ev_new (en_lst (ea_cons (ev_call cW hr (ea_cons (ev_v 4) ea_nil) ⟨_, hk.n, hk.l, hk.s, rfl, rfl⟩) ea_nil))) ea_nil) (hk.b2.r)) (ea_cons (ev_form (o := true) R (ev_v 0)) (ea_cons ev_str ea_nil))) (hk.m2.r .less)) ?_)
      rfl
def rSteps : List Dt → Dt → Prop := fun ds d => ∃ p q : Pr, ds = [dPr p, dPr q] ∧ d = .int (steps p q)
theorem c_steps_between {f : Addr} {fd : FuncData} (F : Fun K "steps_between" "steps_between" s_steps_between f fd) (hm : mg "steps_between" = some (.ref f)) (B : NB mg) : CalD P w K mg base C 1 "steps_between" rSteps :=
  calD F sc_steps_between hm (fun _ _ _ _ _ _ us hl => match us, hl with | [_, _], _ => rfl) (by rintro ds d ⟨p, q, rfl, _⟩; rfl) fun cdv A outer s H E ds d hr h => by
    obtain ⟨p, q, rfl, rfl⟩ := h
    exact sds_cons (sd_ret (ev_add (ev_callB call_abs cd_abs (ea_cons (ev_sub (ev_ixT (ev_v 0) ev_int) (ev_ixT (ev_v 1) ev_int)) ea_nil) (B.h _ (by decide))) (ev_callB call_abs cd_abs (ea_cons (ev_sub (ev_ixT (ev_v 0) ev_int) (ev_ixT (ev_v 1) ev_int)) ea_nil) (B.h _ (by decide)))) rfl)
def rOpen : List Dt → Dt → Prop := fun ds d => ∃ (f : Form) (p q : Pr), (∀ s ∈ f, s.2.2.length ≤ 1000) ∧ ds = [dForm f, dPr p, dPr q] ∧ d = .bl (isOpen f p q)
theorem spansAt_in {f : Form} {n : Int} (h : ∀ s ∈ f, s.2.2.length ≤ 1000) : (spansAt f n).length ≤ 1000 := by
  induction f with
  | nil => exact Nat.zero_le _
  | cons s f ih =>
    unfold spansAt
    split
    · exact h s List.mem_cons_self
    · exact ih fun t ht => h t (List.mem_cons_of_mem _ ht)
theorem c_is_open {f : Addr} {fd : FuncData} (F : Fun K "is_open" "is_open" s_is_open f fd) (hm : mg "is_open" = some (.ref f)) (B : NB mg) (cA : CalD P w K mg base C 1 "spans_at" rSpansAt) (cH : CalD P w K mg base C 1 "holds_span" rHolds) : CalD P w K mg base C 2 "is_open" rOpen :=
  calD F sc_is_open hm (fun _ _ _ _ _ _ us hl => match us, hl with | [_, _, _], _ => rfl) (by rintro ds d ⟨f, p, q, _, rfl, _⟩; rfl) fun cdv A outer s H E ds d hr h => by
    obtain ⟨f, p, q, hl, rfl, rfl⟩ := h
    refine sds_cons (sd_asg (ev_tup (ea_cons (ev_callB (cr_min2D rfl hr.units) (cd_min2X odr_pr (x := p) (y := q)) (ea_cons (ev_v 1) (ea_cons (ev_v 2) ea_nil)) (B.h _ (by decide))) (ea_cons (ev_callB (cr_max2D rfl hr.units) (cd_max2X odr_pr (x := p) (y := q)) (ea_cons (ev_v 1) (ea_cons (ev_v 2) ea_nil)) (B.h _ (by decide))) ea_nil)))
      (eg_t (egs_cons (eg_t (egs_cons (eg_n 3 sc_is_open.nd) (egs_cons (eg_n 4 sc_is_open.nd) egs_nil))) (egs_cons (eg_t (egs_cons (eg_n 5 sc_is_open.nd) (egs_cons (eg_n 6 sc_is_open.nd) egs_nil))) egs_nil))) rfl ?_)
    show SDs _ _ _ [some (dForm f), some (dPr p), some (dPr q), some (.int (minPr p q).1), some (.int (minPr p q).2), some (.int (maxPr p q).1), some (.int (maxPr p q).2), none, none, none, none] _ _
    unfold isOpen
    generalize minPr p q = u
    generalize maxPr p q = v
    refine sds_cons (sd_if (et_eqI (ev_v 3) (ev_v 5)) (fun h => ?_) fun h => sds_nil ?_)
    · have h := of_decide_eq_true h
      rw [if_pos h]
      exact sds_cons (sd_ret (ev_call cH hr (ea_cons (ev_call cA hr (ea_cons (ev_v 0) (ea_cons (ev_v 3) ea_nil)) ⟨f, _, rfl, rfl⟩) (ea_cons (ev_tup (ea_cons (ev_callB (call_min2 rfl) cd_min2 (ea_cons (ev_v 4) (ea_cons (ev_v 6) ea_nil)) (B.h _ (by decide))) (ea_cons (ev_add (ev_callB (call_max2 rfl) cd_max2 (ea_cons (ev_v 4) (ea_cons (ev_v 6) ea_nil)) (B.h _ (by decide))) ev_int) ea_nil))) ea_nil)) ⟨_, mn2 u.2 v.2, mx2 u.2 v.2 + 1, spansAt_in hl, rfl, rfl⟩) rfl)
    · have h := of_decide_eq_false h
      rw [if_neg h]
      refine sds_cons (sd_set 7 (ev_v 3) ?_ sc_is_open.nd)
      refine sds_cons (sd_forX (xs := f) (enc := dSlab) (ei_tup (ev_v 0)) (eg_t (egs_cons (eg_n 8 sc_is_open.nd) (egs_cons (eg_n 9 sc_is_open.nd) (egs_cons (eg_n 10 sc_is_open.nd) egs_nil)))) (fun pre ρ1 M1 => ∃ n : Int, openGo v.1 u.2 pre u.1 = some n ∧ ρ1 = [some (dForm f), some (dPr p), some (dPr q), some (.int u.1), some (.int u.2), some (.int v.1), some (.int v.2), some (.int n), none, none, none] ∧ M1 = []) ⟨u.1, rfl, rfl, rfl⟩ ?_ ?_)
      · rintro pre x post ρ1 M1 e ⟨n, hn, rfl, rfl⟩
        refine ⟨_, rfl, sds_cons (sd_if (EvW.t (ew_and (et_chain (ev_v 8) (ev_v 7) (ev_v 9)) fun _ => ew_and1 (et_le (ev_v 7) (ev_v 5)))) (fun h => ?_) fun h => sds_nil (sds_nil ?_))⟩
        · have hc : x.1 ≤ n ∧ n < x.2.1 ∧ n ≤ v.1 := by
            rw [Bool.and_eq_true] at h
            have h1 := of_decide_eq_true h.1
            have h2 := of_decide_eq_true h.2
            exact ⟨h1.1, h1.2, h2⟩
          have hx : x ∈ f := by rw [e]; simp
          refine sds_cons (sd_if (et_not (et_val (ev_call cH hr (ea_cons (ev_v 10) (ea_cons (ev_tup (ea_cons (ev_v 4) (ea_cons (ev_add (ev_v 4) ev_int) ea_nil))) ea_nil)) ⟨x.2.2, u.2, u.2 + 1, hl x hx, rfl, rfl⟩))) (fun hb => sds_cons (sd_ret ev_bl ?_)) fun hb => sds_nil ?_)
          · have hb : holdsSp x.2.2 u.2 (u.2 + 1) = false := by simpa using hb
            have : openStep v.1 u.2 x n = none := by
              unfold openStep
              rw [if_pos hc, hb]
              rfl
            have e9 : openGo v.1 u.2 f u.1 = none := by rw [e]; exact openGo_bad hn this
            show Dt.bl false = Dt.bl (match openGo v.1 u.2 f u.1 with
              | none => false
              | some n => decide (v.1 < n))
            rw [e9]
          · have hb : holdsSp x.2.2 u.2 (u.2 + 1) = true := by simpa using hb
            refine sds_cons (sd_set 7 (ev_v 9) (sds_nil (sds_nil ?_)) sc_is_open.nd)
            refine ⟨[some (dForm f), some (dPr p), some (dPr q), some (.int u.1), some (.int u.2), some (.int v.1), some (.int v.2), some (.int x.2.1), none, none, none], by repeat (first | exact Le.nil | apply Le.some | apply Le.none), x.2.1, ?_, rfl, rfl⟩
            refine openGo_on hn ?_
            unfold openStep
            rw [if_pos hc, hb]
            rfl
        · have hc : ¬ (x.1 ≤ n ∧ n < x.2.1 ∧ n ≤ v.1) := by
            rintro ⟨h1, h2, h3⟩
            rw [decide_eq_true (show x.1 ≤ n ∧ n < x.2.1 from ⟨h1, h2⟩), decide_eq_true h3] at h
            cases h
          refine ⟨[some (dForm f), some (dPr p), some (dPr q), some (.int u.1), some (.int u.2), some (.int v.1), some (.int v.2), some (.int n), none, none, none], by repeat (first | exact Le.nil | apply Le.some | apply Le.none), n, ?_, rfl, rfl⟩
          refine openGo_on hn ?_
          unfold openStep
          rw [if_neg hc]
      · rintro ρ1 M1 ⟨n, hn, rfl, rfl⟩
        refine sds_cons (sd_ret (ev_gt (ev_v 7) (ev_v 5)) ?_)
        rw [hn]
end
end BR
/-! BrX1: o[i], o[j] = a, b; o.pop(); arithmetic. -/
namespace BR
open PySem PySem.Spec PyProof.Rows L2
section
variable {X : Cx} {C : Addr} {ρ : DE} {M : Mem} {P : Po} {o1 i1 o2 i2 a b o : Expr} {d1 d2 d : Dt} {ds : List Dt} {pos pt p1 p2 pt2 : Pos} {kt k2 : Nat} {i j : Int}
theorem RpAll.dropLast {F : Hp} {vs : List V} {ds : List Dt} (r : RpAll C F vs ds) : RpAll C F vs.dropLast ds.dropLast := by
  rw [List.dropLast_eq_take, List.dropLast_eq_take, r.length]
  exact r.take _
theorem sd_swap (m : Nat) {p : Addr} {n1 n2 : Int} {j1 j2 : Nat} (ha : EvA X C ρ M [a, b] [d1, d2]) (ho1 : Ev X C ρ M o1 (.ref p)) (hi1 : Ev X C ρ M i1 (.int n1)) (hM : M[m]? = some (p, .lst ds)) (hj1 : ixN ds.length n1 = some j1)
    (ho2 : Ev X C ρ (M.set m (p, .lst (ds.set j1 d1))) o2 (.ref p)) (hi2 : Ev X C ρ (M.set m (p, .lst (ds.set j1 d1))) i2 (.int n2)) (hj2 : ixN ds.length n2 = some j2)
    (h : P.nx ρ (M.set m (p, .lst ((ds.set j1 d1).set j2 d2)))) (hc : X.calm = true := by rfl)
    (hs : swapsWithSole [.Tuple [.Subscript o1 i1 p1, .Subscript o2 i2 p2] kt pt] (.Tuple [a, b] k2 pt2) pos.line X.env = pure false := by rfl)
    (hw : swappedStores [.Tuple [.Subscript o1 i1 p1, .Subscript o2 i2 p2] kt pt] (.Tuple [a, b] k2 pt2) X.env = pure none := by rfl)
    (h1 : (assignEach [.Tuple [.Subscript o1 i1 p1, .Subscript o2 i2 p2] kt pt] X.env).map (·.2) = [assign (.Tuple [.Subscript o1 i1 p1, .Subscript o2 i2 p2] kt pt) X.env] := by rfl)
    (s1 : ∀ v, assign (.Subscript o1 i1 p1) X.env v = (do
      let ov ← holding [v] (eval o1 X.env)
      let iv ← holding [v, ov] (eval i1 X.env)
      standAt p1
      holding [v, ov, iv] (setItem ov iv v)
      release [v, ov, iv] []) := by intro _; rfl)
    (s2 : ∀ v, assign (.Subscript o2 i2 p2) X.env v = (do
      let ov ← holding [v] (eval o2 X.env)
      let iv ← holding [v, ov] (eval i2 X.env)
      standAt p2
      holding [v, ov, iv] (setItem ov iv v)
      release [v, ov, iv] []) := by intro _; rfl)
    (e1 : (assignEach [.Subscript o1 i1 p1, .Subscript o2 i2 p2] X.env).map (·.2) = assign (.Subscript o1 i1 p1) X.env :: (assignEach [.Subscript o2 i2 p2] X.env).map (·.2) := by rfl)
    (e2 : (assignEach [.Subscript o2 i2 p2] X.env).map (·.2) = assign (.Subscript o2 i2 p2) X.env :: (assignEach [] X.env).map (·.2) := by rfl)
    (hn : (assignEach [.Subscript o1 i1 p1, .Subscript o2 i2 p2] X.env).length = 2 := by rfl) (hst : (assignEach [.Subscript o1 i1 p1, .Subscript o2 i2 p2] X.env).findIdx? (·.1) = none := by rfl) :
    SD X C (.Assign [.Tuple [.Subscript o1 i1 p1, .Subscript o2 i2 p2] kt pt] (.Tuple [a, b] k2 pt2) pos) ρ M P :=
  PS.imp (ps_asg (ev_tup ha) (pg_tup hc (pgs_cons (pg_sub ho1 hi1 set_list s1) (pgs_cons (pg_sub ho2 hi2 set_list s2) pgs_nil e2) e1) hn hst) hs hw h1) fun D σ H ⟨Fb, Hb, F, bs, I, q⟩ => ⟨F, I, fun v F1 H1 x1 r => by
    obtain ⟨t, xs, rfl, ht, rx⟩ := r.inj_tup
    obtain ⟨v1, v2, rfl, rv1, rv2⟩ := rx.two
    have I1 := I.ext x1
    refine ⟨t, [v1, v2], rfl, .inl (.of (I1.fh _ _ ht)), rfl, v1, [v2], rfl, F1, I1, fun ov F2 H2 x2 r2 => ?_⟩
    have ev := r2.inj_ref
    subst ev
    have I2 := I1.ext x2
    refine ⟨F2, I2, fun iv F3 H3 x3 r3 => ?_⟩
    have ev := r3.inj_int
    subst ev
    have I3 := I2.ext x3
    obtain ⟨f1, g1, hh, ys, rfl, ry⟩ := I3.m.m m p _ hM
    refine ⟨p, ys, n1, j1, rfl, rfl, hh, by rw [ry.length]; exact hj1, ?_⟩
    have rv1' := (rv1.to x2.f).to x3.f
    have rv2' := (rv2.to x2.f).to x3.f
    have b3 := ((bs.ext x1).ext x2).ext x3
    have I4 : En C F3 ρ (M.set m (p, .lst (ds.set j1 d1))) σ (upd H3 p (.lst (ys.set j1 v1))) := chg_ok I3 hM ⟨_, rfl, ry.set j1 rv1'⟩
    have b4 := chg_bs (C := C) (d1 := .lst (ds.set j1 d1)) (h1 := .lst (ys.set j1 v1)) b3 I3.m hM
    have hM4 : (M.set m (p, Dt.lst (ds.set j1 d1)))[m]? = some (p, .lst (ds.set j1 d1)) := List.getElem?_set_self (List.getElem?_eq_some_iff.mp hM).1
    refine ⟨v2, [], rfl, F3, I4, fun ov F5 H5 x5 r5 => ?_⟩
    have ev := r5.inj_ref
    subst ev
    have I5 := I4.ext x5
    refine ⟨F5, I5, fun iv F6 H6 x6 r6 => ?_⟩
    have ev := r6.inj_int
    subst ev
    have I6 := I5.ext x6
    obtain ⟨f2, g2, hh2, zs, rfl, rz⟩ := I6.m.m m p _ hM4
    refine ⟨p, zs, n2, j2, rfl, rfl, hh2, by rw [rz.length, List.length_set]; exact hj2, rfl, ?_⟩
    have b6 := (b4.ext x5).ext x6
    have hset : (M.set m (p, Dt.lst (ds.set j1 d1))).set m (p, .lst ((ds.set j1 d1).set j2 d2)) = M.set m (p, .lst ((ds.set j1 d1).set j2 d2)) := List.set_set ..
    have I7 := chg_ok (d1 := .lst ((ds.set j1 d1).set j2 d2)) I6 hM4 ⟨_, rfl, rz.set j2 ((rv2'.to x5.f).to x6.f)⟩
    have b7 := chg_bs (C := C) (d1 := .lst ((ds.set j1 d1).set j2 d2)) (h1 := .lst (zs.set j2 v2)) b6 I6.m hM4
    rw [hset] at I7 b7
    exact q.nx _ _ _ F6 _ h b7 I7⟩
/-- o.pop() -/
theorem ek_pop (m : Nat) {p : Addr} {apos : Pos} {k : Dt → Mem → Prop} (ho : Ev X C ρ M o (.ref p)) (hM : M[m]? = some (p, .lst ds)) (hd : ds[ds.length - 1]? = some d) (h : k d (M.set m (p, .lst ds.dropLast)))
    (hbase : attributeBase o "pop" X.env (eval o X.env) = eval o X.env := by rfl) (hline : (apos.endLine == pos.line) = true := by rfl) : EvK X C ρ M (.Call (.Attribute o "pop" apos) [] [] pos) k :=
  PE.imp (pe_bm0 PySem.F.plainAttrs_list PySem.F.slot_list_pop PySem.F.type_list_pop mt_pop ho hbase hline) fun σ H Q ⟨Fb, Hb, F, bs, I, q⟩ => ⟨F, I, fun v F1 H1 e1 r1 => by
    have ev := r1.inj_ref
    subst ev
    have I1 := I.ext e1
    obtain ⟨f1, g1, hh, ys, rfl, ry⟩ := I1.m.m m p _ hM
    refine ⟨.inl ⟨rfl, ys, .of hh⟩, p, ys, ?_⟩
    obtain ⟨y, hy, rd⟩ := ry.at hd
    exact ⟨y, rfl, rfl, hh, by rw [ry.length]; exact hy, q y d _ F1 _ h e1.f (chg_bs (C := C) (bs.ext e1) I1.m hM) (chg_ok I1 hM ⟨_, rfl, ry.dropLast⟩) rd⟩⟩
theorem ev_mulS (ha : Ev X C ρ M a (.int i)) (hb : Ev X C ρ M b (.int j)) (h : CMul i j) : Ev X C ρ M (.BinOp a .Mult b pos) (.int (i * j)) := ev_op op_mul (od_IC (fun _ => .int _) h) ha hb
theorem ev_mulW (ha : Ev X C ρ M a (.int i)) (hb : Ev X C ρ M b (.int j)) (h : CMulW i j) : Ev X C ρ M (.BinOp a .Mult b pos) (.int (i * j)) := ev_op op_mulW (od_IC (fun _ => .int _) h) ha hb
theorem ev_fdiv (ha : Ev X C ρ M a (.int i)) (hb : Ev X C ρ M b (.int j)) (h : CDiv i j) : Ev X C ρ M (.BinOp a .FloorDiv b pos) (.int (i / j)) := ev_op op_fdiv (od_IC (fun _ => .int _) h) ha hb
theorem ev_fdivW (ha : Ev X C ρ M a (.int i)) (hb : Ev X C ρ M b (.int j)) (h : CDivW i j) : Ev X C ρ M (.BinOp a .FloorDiv b pos) (.int (i / j)) := ev_op op_fdivW (od_IC (fun _ => .int _) h) ha hb
theorem ev_mod (ha : Ev X C ρ M a (.int i)) (hb : Ev X C ρ M b (.int j)) (h : 0 < j) : Ev X C ρ M (.BinOp a .Mod b pos) (.int (i % j)) := ev_op op_mod (od_IC (fun _ => .int _) h) ha hb
theorem ev_pow (ha : Ev X C ρ M a (.int i)) (hb : Ev X C ρ M b (.int j)) (h : CPow i j) : Ev X C ρ M (.BinOp a .Pow b pos) (.int (i ^ j.toNat)) := ev_op op_pow (od_IC (fun _ => .int _) h) ha hb
end
end BR
/-! BrX2: the heap. -/
namespace BR
open PySem PySem.Spec PyProof.Rows L2 PySem.W
def dE (e : E3) : Dt := .tup [.int e.1, dPr e.2.1, dPr e.2.2]
theorem eqv_pr (p q : Pr) : PyData.eqv (toPy (dPr p)) (toPy (dPr q)) = decide (p = q) := by
  rw [Bool.eq_iff_iff, cpr_pr.e p q, decide_eq_true_eq]
theorem lt_e3 (a b : E3) : dataLt (toPy (dE a)) (toPy (dE b)) = ltE a b := by
  have e : ∀ x : E3, toPy (dE x) = .tuple [.int x.1, toPy (dPr x.2.1), toPy (dPr x.2.2)] := fun x => by simp only [dE, toPy, toPys]
  have h1 : ∀ p q : Pr, alike (toPy (dPr p)) (toPy (dPr q)) = true := odr_pr.al
  rw [e, e, dataLt_tuple]
  unfold ltE
  by_cases h : a.1 = b.1
  · rw [dataLt_all_yes (by simp [alike]) (by simp [PyData.eqv, h])]
    by_cases h2 : a.2.1 = b.2.1
    · rw [dataLt_all_yes (h1 _ _) (by rw [eqv_pr]; exact decide_eq_true h2)]
      by_cases h3 : a.2.2 = b.2.2
      · rw [dataLt_all_yes (h1 _ _) (by rw [eqv_pr]; exact decide_eq_true h3)]
        simp [h, h2, h3, ltPr', keyToksAll, PyProof.Rows.lexLt]
        try rfl
      · rw [dataLt_all_no (h1 _ _) (by rw [eqv_pr]; exact decide_eq_false h3), odr_pr.lt]
        simp [h, h2, ltPr, ltPr']
    · rw [dataLt_all_no (h1 _ _) (by rw [eqv_pr]; exact decide_eq_false h2), odr_pr.lt]
      simp [h, h2, ltPr, ltPr']
  · rw [dataLt_all_no (by simp [alike]) (by simp [PyData.eqv, h]), dataLt_int]
    simp [h]
theorem odr_e : Odr dE 2 ltE := ⟨fun x => by simp [dE, noR, noRs, cpr_pr.n], fun x y => by
    have h1 : ∀ p q : Pr, alike (toPy (dPr p)) (toPy (dPr q)) = true := odr_pr.al
    simp [dE, toPy, toPys, alike, alikeAll, h1], fun x => by simp [dE, toPy], fun x => by
    have h1 : ∀ p : Pr, (toPy (dPr p)).depth ≤ 1 := odr_pr.d
    have a1 := h1 x.2.1
    have a2 := h1 x.2.2
    simp only [dE, toPy, toPys, PyData.depth, PyData.depthAll]
    omega, lt_e3⟩
theorem dE_noL (e : E3) : noL (dE e) = true := rfl
theorem ixN_nat {n k : Nat} (h : k < n) : ixN n (k : Int) = some k := by
  unfold ixN
  rw [if_pos (by omega), if_pos (by omega), Int.toNat_natCast]
section
variable {P : Program} {w : World} {K : PySem.W.Frag} {mg : Str → Option Value} {base : Heap} {C : Addr}
def rPut : List Dt → List Dt → Dt → List Dt → Prop := fun ds es d ds' => ∃ (l : List E3) (x : E3), l.length ≤ 90000 ∧ ds = l.map dE ∧ es = [dE x] ∧ d = .non ∧ ds' = (putIn ltE l x).map dE
theorem par_nat (k : Nat) (h : 0 < k) : (((k : Nat) : Int) - 1) / 2 = (((k - 1) / 2 : Nat) : Int) := by omega
theorem c_put_in {f : Addr} {fd : FuncData} (F : Fun K "put_in" "put_in" s_put_in f fd) (hm : mg "put_in" = some (.ref f)) (B : NB mg) : CalM P w K mg base C 1 "put_in" rPut :=
  calM F sc_put_in hm (fun _ _ _ _ _ _ us hl => match us, hl with | [_, _], _ => rfl) (by rintro ds es d ds' ⟨l, x, _, _, rfl, _⟩; rfl) fun cdv A outer s H E p ds es d ds' hr h => by
    obtain ⟨l, x, hl, rfl, rfl, rfl, rfl⟩ := h
    refine sds_cons (sd_app 0 (ev_v 0) (ev_v 1) rfl (by rw [List.length_map]; omega) ?_)
    refine sds_cons (sd_set 2 (d := .int ((l.length : Nat) : Int)) (ev_view 0 0 (d0 := .lst (l.map dE ++ [dE x])) (Ev.cast (ev_sub (ev_callB call_len_seq cd_lenL (ea_cons (ev_v 0) ea_nil) (B.h _ (by decide))) ev_int) (by rw [List.length_append, List.length_map, List.length_singleton]; congr 1; omega))) ?_ sc_put_in.nd)
    refine sds_cons (sd_while (fun m ρ1 M1 => ∃ (l1 : List E3) (k : Nat), m = k ∧ k < l1.length ∧ l1.length = l.length + 1 ∧ (∀ n, k < n → upGo ltE n l1 k = putIn ltE l x) ∧ ρ1 = [some (.ref p), some (dE x), some (.int (k : Nat))] ∧ M1 = [(p, .lst (l1.map dE))]) l.length ?_ ?_)
    · refine ⟨l ++ [x], l.length, rfl, by simp, by simp, fun n hn => ?_, rfl, ?_⟩
      · exact up_fuel ltE (by simp) hn (Nat.lt_succ_self _)
      · show [(p, Dt.lst (l.map dE ++ [dE x]))] = _
        rw [List.map_append]
        rfl
    rintro k ρ1 M1 ⟨l1, k9, rfl, hk, hlen, hup, rfl, rfl⟩
    by_cases hk0 : k = 0
    · subst hk0
      refine ⟨false, et_view 0 0 (EvT.cast' (EvW.t (ew_and (k2 := true) (et_gt (ev_v 2) ev_int) fun h => ?_)) rfl), fun h => (by cases h), fun _ => ?_⟩
      · cases h
      refine sds_nil ⟨rfl, 0, ?_⟩
      have := hup 1 (by omega)
      unfold upGo at this
      rw [if_pos rfl] at this
      rw [this]
      rfl
    · obtain ⟨y, hy⟩ : ∃ y, l1[k]? = some y := ⟨_, List.getElem?_eq_getElem hk⟩
      have hk2 : (k - 1) / 2 < l1.length := by omega
      obtain ⟨z, hz⟩ : ∃ z, l1[(k - 1) / 2]? = some z := ⟨_, List.getElem?_eq_getElem hk2⟩
      have hkp : (((k : Nat) : Int) - 1) / 2 = (((k - 1) / 2 : Nat) : Int) := by omega
      have hz' : atI (l1.map dE) ((((k : Nat) : Int) - 1) / 2) = some (dE z) := by rw [hkp]; exact atI_nat hz
      have hst : ∀ n, k < n + 1 → upGo ltE (n + 1) l1 k = if ltE y z = true then upGo ltE n ((l1.set k z).set ((k - 1) / 2) y) ((k - 1) / 2) else l1 := fun n hn => by
        rw [show upGo ltE (n + 1) l1 k = _ from upGo.eq_2 ..]
        rw [if_neg hk0, hy, hz]
      refine ⟨ltE y z, et_view 0 0 (d0 := .lst (l1.map dE)) (EvT.cast' (EvW.t (ew_and (k2 := ltE y z) (et_gt (ev_v 2) ev_int) fun h => ew_and1 (et_ltX odr_e hr (ev_ixL (ev_v 0) (ev_v 2) (atI_nat hy)) (ev_ixL (ev_v 0) (ev_fdiv (ev_sub (ev_v 2) ev_int) ev_int ⟨by decide, by decide⟩) hz')))) ?_), fun h => ?_, fun h => ?_⟩
      · rw [decide_eq_true (show (0 : Int) < k by omega), Bool.true_and]
      · refine sds_cons (sd_swap 0 (d1 := dE z) (d2 := dE y) (ds := l1.map dE) (j1 := k) (j2 := (k - 1) / 2) (ea_cons (ev_view 0 0 (d0 := .lst (l1.map dE)) (ev_ixL (ev_v 0) (ev_fdiv (ev_sub (ev_v 2) ev_int) ev_int ⟨by decide, by decide⟩) hz')) (ea_cons (ev_view 0 0 (d0 := .lst (l1.map dE)) (ev_ixL (ev_v 0) (ev_v 2) (atI_nat hy))) ea_nil)) (ev_v 0) (ev_v 2) rfl (ixN_nat (by rw [List.length_map]; exact hk)) (ev_v 0) (ev_fdiv (ev_sub (ev_v 2) ev_int) ev_int ⟨by decide, by decide⟩) (by rw [hkp]; exact ixN_nat (by rw [List.length_map]; exact hk2)) ?_)
        refine sds_cons (sd_set 2 (ev_fdiv (ev_sub (ev_v 2) ev_int) ev_int ⟨by decide, by decide⟩) (sds_nil ?_) sc_put_in.nd)
        refine ⟨(k - 1) / 2, _, by omega, .refl, (l1.set k z).set ((k - 1) / 2) y, (k - 1) / 2, rfl, by rw [List.length_set, List.length_set]; omega, by rw [List.length_set, List.length_set]; exact hlen, fun n hn => ?_, ?_, ?_⟩
        · have h1 := hup (k + 1) (by omega)
          rw [hst k (by omega), if_pos h] at h1
          rw [← h1]
          exact up_fuel ltE (by rw [List.length_set, List.length_set]; omega) hn (by omega)
        · rw [← hkp]; rfl
        · show [(p, Dt.lst _)] = _
          rw [List.map_set, List.map_set]
      · refine sds_nil ⟨rfl, 0, ?_⟩
        have h1 := hup (k + 1) (by omega)
        rw [hst k (by omega), if_neg (by rw [h]; exact Bool.false_ne_true)] at h1
        rw [← h1]
        rfl
def rTake : List Dt → List Dt → Dt → List Dt → Prop := fun ds es d ds' => es = [] ∧ ((∃ (n : Int) (p : Pr), ds = [.tup [.int n, dPr p, .non]] ∧ d = .tup [.int n, dPr p, .non] ∧ ds' = []) ∨
  ∃ (x : E3) (r : List E3), r.length ≤ 90000 ∧ ds = (x :: r).map dE ∧ d = dE x ∧ ds' = (takeIn ltE (x :: r)).map dE)
theorem cpr_e : Cpr dE 2 := ⟨fun x => odr_e.n x, fun x => by simp [dE, toPy, toPys, PyData.canLay0, PyData.canLayAll0, cpr_pr.l], fun x => odr_e.d x, fun x y => by
  simp only [dE, toPy, toPys, PyData.eqv, PyData.eqvAll, Bool.and_eq_true, cpr_pr.e, decide_eq_true_eq]
  constructor
  · rintro ⟨h1, h2, h3, _⟩
    exact Prod.ext (eq_of_beq h1) (Prod.ext h2 h3)
  · rintro rfl
    simp⟩
theorem c_take_least {f : Addr} {fd : FuncData} (F : Fun K "take_least" "take_least" s_take_least f fd) (hm : mg "take_least" = some (.ref f)) (B : NB mg) : CalM P w K mg base C 1 "take_least" rTake :=
  calM F sc_take_least hm (fun _ _ _ _ _ _ us hl => match us, hl with | [_], _ => rfl) (by rintro ds es d ds' ⟨rfl, _⟩; rfl) fun cdv A outer s H E p ds es d ds' hr h => by
    obtain ⟨rfl, ⟨n, q, rfl, rfl, rfl⟩ | ⟨x, r, hl, rfl, rfl, rfl⟩⟩ := h
    · refine sds_cons (sd_parK 1 2 (eka_cons (ek_p (d := .tup [.int n, dPr q, .non]) (ev_view 0 0 (d0 := .lst [.tup [.int n, dPr q, .non]]) (ev_ixL (ev_v 0) ev_int rfl)) (eka_cons (ek_pop 0 (d := .tup [.int n, dPr q, .non]) (ev_v 0) rfl rfl (eka_nil ⟨_, _, rfl, ?_⟩))))) sc_take_least.nd)
      refine sds_cons (sd_if (et_view 0 0 (d0 := .lst (([] : List E3).map dE)) (et_eqX (x := []) (y := []) cpr_e.lst hr (ev_v 0) (ev_new (en_lst ea_nil)))) (fun _ => sds_cons (sd_ret (ev_v 1) ⟨rfl, 0, rfl⟩)) fun h => by cases h)
    · have hne : (x :: r).getLast? = some ((x :: r).getLast (by simp)) := List.getLast?_eq_some_getLast (by simp)
      generalize (x :: r).getLast (by simp) = z at hne
      have hz : ((x :: r).map dE)[((x :: r).map dE).length - 1]? = some (dE z) := by
        rw [← List.getLast?_eq_getElem?, List.getLast?_map, hne]
        rfl
      refine sds_cons (sd_parK 1 2 (eka_cons (ek_p (d := dE x) (ev_view 0 0 (d0 := .lst ((x :: r).map dE)) (ev_ixL (ev_v 0) ev_int (atI_head (f := dE)))) (eka_cons (ek_pop 0 (d := dE z) (ev_v 0) rfl hz (eka_nil ⟨_, _, rfl, ?_⟩))))) sc_take_least.nd)
      have hpop : [(p, Dt.lst ((x :: r).map dE))].set 0 (p, Dt.lst ((x :: r).map dE).dropLast) = [(p, Dt.lst ((x :: r).dropLast.map dE))] := by
        show [(p, Dt.lst ((x :: r).map dE).dropLast)] = _
        rw [List.map_dropLast]
      rw [hpop]
      have hd : takeIn ltE (x :: r) = match (x :: r).dropLast with
        | y :: t => downGo ltE (x :: r).length (z :: t) 0
        | [] => [] := by
        unfold takeIn
        rw [hne]
        cases (x :: r).dropLast <;> rfl
      have hlen : (x :: r).dropLast.length = r.length := by rw [List.length_dropLast]; rfl
      rw [hd]
      generalize (x :: r).dropLast = l at hlen
      refine sds_cons (sd_if (et_view 0 0 (d0 := .lst (l.map dE)) (et_eqX (x := l) (y := []) cpr_e.lst hr (ev_v 0) (ev_new (en_lst ea_nil)))) (fun h => ?_) fun h => sds_nil ?_)
      · have : l = [] := of_decide_eq_true h
        subst this
        exact sds_cons (sd_ret (ev_v 1) ⟨rfl, 0, rfl⟩)
      cases l with
      | nil => cases h
      | cons y t =>
        dsimp only
        refine sds_cons (sd_setL 0 (k := 0) (j := 0) (ev_v 0) ev_int (ev_v 2) rfl (ixN_nat (by simp)) ?_)
        refine sds_cons (sd_set 3 ev_int ?_ sc_take_least.nd)
        refine sds_cons (sd_while (fun m ρ1 M1 => ∃ (l1 : List E3) (k : Nat), m = l1.length - k ∧ k < l1.length ∧ l1.length = r.length ∧ (∀ n, l1.length - k ≤ n → downGo ltE n l1 k = downGo ltE (x :: r).length (z :: t) 0) ∧ ρ1 = [some (.ref p), some (dE x), some (dE z), some (.int (k : Nat)), none] ∧ M1 = [(p, .lst (l1.map dE))]) (t.length + 1) ?_ ?_)
        · refine ⟨z :: t, 0, rfl, by simp, hlen, fun n hn => ?_, rfl, rfl⟩
          refine down_fuel ltE (by simp) hn ?_
          rw [List.length_cons] at hlen ⊢
          rw [List.length_cons]
          omega
        rintro m ρ1 M1 ⟨l1, k, rfl, hk, hlen1, hdn, rfl, rfl⟩
        have ec : (2 : Int) * ((k : Nat) : Int) + 1 = ((2 * k + 1 : Nat) : Int) := by omega
        have cm : CMul 2 ((k : Nat) : Int) := .inl ⟨by decide, by decide⟩
        refine ⟨decide (2 * k + 1 < l1.length), et_view 0 0 (d0 := .lst (l1.map dE)) (EvT.cast' (et_lt (ev_add (ev_mulS ev_int (ev_v 3) cm) ev_int) (ev_callB call_len_seq cd_lenL (ea_cons (ev_v 0) ea_nil) (B.h _ (by decide)))) ?_), fun h => ?_, fun h => ?_⟩
        · rw [List.length_map, ec]
          exact decide_eq_decide.mpr (by omega)
        · have h := of_decide_eq_true h
          have hc := childOf_lt ltE h
          have hgt := childOf_gt ltE l1 k
          obtain ⟨u, hu⟩ : ∃ u, l1[k]? = some u := ⟨_, List.getElem?_eq_getElem hk⟩
          obtain ⟨v, hv⟩ : ∃ v, l1[childOf ltE l1 k]? = some v := ⟨_, List.getElem?_eq_getElem hc⟩
          obtain ⟨a, ha⟩ : ∃ a, l1[2 * k + 1]? = some a := ⟨_, List.getElem?_eq_getElem h⟩
          refine sds_cons (sd_set 4 (d := .int ((2 * k + 1 : Nat) : Int)) (Ev.cast (ev_add (ev_mulS ev_int (ev_v 3) cm) ev_int) (by rw [← ec])) ?_ sc_take_least.nd)
          have hnx : ((2 * k + 1 : Nat) : Int) + 1 = ((2 * k + 2 : Nat) : Int) := by omega
          refine sds_cons (SD.mono (P' := { nx := fun ρ' M' => ρ' = [some (.ref p), some (dE x), some (dE z), some (.int (k : Nat)), some (.int ((childOf ltE l1 k : Nat) : Int))] ∧ M' = [(p, .lst (l1.map dE))], rt := fun _ _ => False, bk := fun _ _ => False, ct := fun _ _ => False }) ?_ ?_ (fun _ _ z => z.elim) (fun _ _ z => z.elim) (fun _ _ z => z.elim))
          · by_cases h2 : 2 * k + 2 < l1.length
            · obtain ⟨b, hb⟩ : ∃ b, l1[2 * k + 2]? = some b := ⟨_, List.getElem?_eq_getElem h2⟩
              have hch := child_yes ltE ha hb
              refine sd_if (k := ltE b a) (et_view 0 0 (d0 := .lst (l1.map dE)) (EvT.cast' (EvW.t (ew_and (k2 := ltE b a) (et_lt (ev_add (ev_v 4) ev_int) (ev_callB call_len_seq cd_lenL (ea_cons (ev_v 0) ea_nil) (B.h _ (by decide)))) fun _ => ew_and1 (et_ltX odr_e hr (ev_ixL (ev_v 0) (ev_add (ev_v 4) ev_int) (by rw [hnx]; exact atI_nat hb)) (ev_ixL (ev_v 0) (ev_v 4) (atI_nat ha))))) ?_)) (fun h3 => ?_) fun h3 => ?_
              · rw [List.length_map, decide_eq_true (by omega), Bool.true_and]
              · refine sds_cons (sd_aug (i := 4) (m := ((2 * k + 1 : Nat) : Int)) (n := 1) rfl ev_int (sds_nil ⟨?_, rfl⟩) sc_take_least.nd)
                rw [hch, if_pos h3, hnx]
                rfl
              · refine sds_nil ⟨?_, rfl⟩
                rw [hch, if_neg (by rw [h3]; exact Bool.false_ne_true)]
                rfl
            · have hch := child_no ltE (l := l1) h2
              refine sd_if (k := false) (et_view 0 0 (d0 := .lst (l1.map dE)) (EvT.cast' (EvW.t (ew_and (k2 := true) (et_lt (ev_add (ev_v 4) ev_int) (ev_callB call_len_seq cd_lenL (ea_cons (ev_v 0) ea_nil) (B.h _ (by decide)))) fun h3 => ?_)) ?_)) (fun h3 => by cases h3) fun h3 => ?_
              · rw [List.length_map] at h3
                have := of_decide_eq_true h3
                omega
              · rw [List.length_map, decide_eq_false (by omega), Bool.false_and]
              · refine sds_nil ⟨?_, rfl⟩
                rw [hch]
                rfl
          rintro ρ1 M1 ⟨rfl, rfl⟩
          have h1 := hdn (l1.length - k) (Nat.le_refl _)
          obtain ⟨n0, hn0⟩ : ∃ n0, l1.length - k = n0 + 1 := ⟨l1.length - k - 1, by omega⟩
          rw [hn0, down_step ltE hu hv] at h1
          refine sds_cons (sd_if (et_view 0 0 (d0 := .lst (l1.map dE)) (et_leX odr_e hr (ev_ixL (ev_v 0) (ev_v 3) (atI_nat hu)) (ev_ixL (ev_v 0) (ev_v 4) (atI_nat hv)))) (fun h2 => ?_) fun h2 => sds_nil ?_)
          · have h2 : ltE v u = false := by simpa using h2
            rw [if_neg (by rw [h2]; exact Bool.false_ne_true)] at h1
            exact sds_cons (sd_ret (ev_v 1) ⟨rfl, 0, by rw [← h1]; rfl⟩)
          · have h2 : ltE v u = true := by simpa using h2
            rw [if_pos h2] at h1
            refine sds_cons (sd_swap 0 (d1 := dE v) (d2 := dE u) (ds := l1.map dE) (j1 := k) (j2 := childOf ltE l1 k) (ea_cons (ev_view 0 0 (d0 := .lst (l1.map dE)) (ev_ixL (ev_v 0) (ev_v 4) (atI_nat hv))) (ea_cons (ev_view 0 0 (d0 := .lst (l1.map dE)) (ev_ixL (ev_v 0) (ev_v 3) (atI_nat hu))) ea_nil)) (ev_v 0) (ev_v 3) rfl (ixN_nat (by rw [List.length_map]; exact hk)) (ev_v 0) (ev_v 4) (ixN_nat (by rw [List.length_map]; exact hc)) ?_)
            refine sds_cons (sd_set 3 (ev_v 4) (sds_nil ?_) sc_take_least.nd)
            refine ⟨l1.length - childOf ltE l1 k, [some (.ref p), some (dE x), some (dE z), some (.int ((childOf ltE l1 k : Nat) : Int)), none], by omega, by repeat (first | exact Le.nil | apply Le.some | apply Le.none), (l1.set k v).set (childOf ltE l1 k) u, childOf ltE l1 k, by rw [List.length_set, List.length_set], by rw [List.length_set, List.length_set]; exact hc, by rw [List.length_set, List.length_set]; exact hlen1, fun n hn => ?_, rfl, ?_⟩
            · rw [← h1]
              rw [List.length_set, List.length_set] at hn
              exact down_fuel ltE (by rw [List.length_set, List.length_set]; exact hc) (by rw [List.length_set, List.length_set]; exact hn) (by rw [List.length_set, List.length_set]; omega)
            · show [(p, Dt.lst _)] = _
              rw [List.map_set, List.map_set]
        · have h := of_decide_eq_false h
          have h1 := hdn (l1.length - k) (Nat.le_refl _)
          rw [down_end ltE h] at h1
          refine sds_cons (sd_ret (ev_v 1) ⟨rfl, 0, ?_⟩)
          rw [← h1]
          rfl
end
end BR
/-! BrX3: sorted(set(xs)); o[i] = new; a dict of lists taken as it stands. -/
namespace BR
open PySem PySem.Spec PyProof.Rows L2
section
variable {X : Cx} {C : Addr} {ρ : DE} {M : Mem} {P : Po} {e i o : Expr} {d : Dt} {ds : List Dt} {pos pos' p1 p2 p3 p4 : Pos}
theorem en_sortedSet (B : List Int) {ns : List Int} (he : Ev X C ρ M e (.lst (ns.map Dt.int))) (hn : ns.length ≤ 1000) (hB : B.length < 64) (hk : ∀ k ∈ ns, k ∈ B) (hm0 : X.mg "sorted" = none) (hm1 : X.mg "set" = none) (hc : X.calm = true := by rfl) (hg0 : Gl X "sorted" := by rfl) (hg1 : Gl X "set" := by rfl)
    (h1 : starEach [.Call (.Name "set" p1) [e] [] p2] X.env = (false, eval (.Call (.Name "set" p1) [e] [] p2) X.env) :: starEach [] X.env := by rfl) (h2 : starEach [e] X.env = (false, eval e X.env) :: starEach [] X.env := by rfl)
    (hp1 : (backTo p4 (starEach [] X.env)).any (·.1) = false := by rfl) (hp2 : (backTo p2 (starEach [] X.env)).any (·.1) = false := by rfl) :
    EvN X C ρ M (.Call (.Name "sorted" p3) [.Call (.Name "set" p1) [e] [] p2] [] p4) ((sortU ns).map Dt.int) :=
  PE.imp (pe_callB (cr_sortedB hc) hg0 hm0 (by decide +kernel) (pa_cons (pe_callTy (cr_setOfI hc) hg1 hm1 (by decide +kernel) (pa_cons he pa_nil h2) (by decide) (by decide) h2 hp2) pa_nil h1) (by decide) (by decide) h1 hp1) fun σ H Q ⟨F, I, q⟩ => ⟨F, I, fun v F1 H1 e1 r1 => by
    have I1 := I.ext e1
    obtain ⟨a, xs, rfl, ha, rx⟩ := r1.inj_lst
    rw [rx.ints] at ha
    refine ⟨a, ns, rfl, .inl (.of (I1.fh _ _ ha)), hn, fun s n hs => ?_⟩
    refine ⟨s, _, n, B, rfl, upd_same, hB, fun k z => hk k (of_decide_eq_true z), fun ms t hp hm ht => ?_⟩
    have e : ms = sortU ns := rising_eq hp sortU_pw fun k => by rw [hm, decide_eq_true_eq, mem_sortU]
    subst e
    have e2 : Ext F1 H1 F1 (upd H1 s (SetO X.w s (fun j => decide (j ∈ ns)) n)) := .newH I1.fh hs
    have e3 := e2.trans (.newH (o := .lst ((sortU ns).map V.int)) e2.fh ht)
    exact q t _ F1 _ (e1.free (e2.free ht)) (e1.trans e3) (e2.fh.free ht) upd_same (rp_ints _)⟩
/-- o[i] = e, e may be new; the table's values are any data -/
theorem sd_putK {q : Addr} {p : Pr} (he : EvK X C ρ M e fun d M' => ∃ m es, M'[m]? = some (q, dD id es) ∧ es.length ≤ 100000 ∧ P.nx ρ (M'.set m (q, dD id (pt es p d))))
    (ho : ∀ M', Ev X C ρ M' o (.ref q)) (hi : ∀ M', Ev X C ρ M' i (dPr p)) (hr : ∃ n, Room n X.A)
    (hs : swapsWith e (some (.Subscript o i pos')) pos.line X.env = pure false := by rfl) : SD X C (.Assign [.Subscript o i pos'] e pos) ρ M P := by
  obtain ⟨nr, hr⟩ := hr
  have tE : ∀ {x : Expr} {d : Dt}, (∀ M', Ev X C ρ M' x d) → PE X x (fun σ H Q => ∃ M', tR C ρ M' d σ H Q) := fun h => ⟨fun pins s σ H Q I ⟨M', t⟩ => (h M').run pins s σ H Q I t⟩
  refine PS.imp (ps_dput (by have := hr.units; omega) (tE ho) (tE hi) he hs) fun D σ H ⟨Fb, Hb, F, bs, I, qq⟩ => ?_
  refine ⟨Fb, Hb, F, bs, I, fun v d M1 F1 H1 ⟨m, es, hM, hl, h⟩ s1 b1 I1 r1 => ⟨M1, F1, I1, fun x F2 H2 e2 r2 => ⟨M1, F2, I1.ext e2, fun y F3 H3 e3 r3 => ?_⟩⟩⟩
  have I3 := (I1.ext e2).ext e3
  rw [r2.inj_ref]
  obtain ⟨f1, h1, hh, kvs, rfl, hk, hv⟩ := I3.m.m m q _ hM
  obtain ⟨c, rfl, hc⟩ := key_rep r3
  have hz : kvs.length < sizeLine := by
    have : kvs.length = es.length := by
      have := congrArg List.length hk
      rwa [List.length_map, List.length_map] at this
    rw [this]
    exact Nat.lt_of_le_of_lt hl (by decide)
  refine ⟨q, _, rfl, DPut.t hh (e3.fh _ _ hc) hz, ?_⟩
  obtain ⟨k1, k2⟩ := put_rep (p := p) hk hv ((r1.to e2.f).to e3.f)
  exact qq.nx _ _ _ F3 _ h (chg_bs (C := C) ((b1.ext e2).ext e3) I3.m hM) (chg_ok I3 hM ⟨_, rfl, k1, k2⟩)
/-- a dict of lists, all at once -/
def dDL (es : List (Pr × List Dt)) : Dt := dD (fun l : List Dt => Dt.lst l) es
theorem sds_freezeD {ss : List Stmt} (i : Nat) {q : Addr} (ads : List (Pr × Addr × List Dt)) (h : SDs X C ss (ρ.set i (some (dDL (ads.map fun x => (x.1, x.2.2))))) [] P) (hi : ρ[i]? = some (some (.ref q))) (hq : (q, dD id (ads.map fun x => (x.1, Dt.ref x.2.1))) ∈ M) (hl : ∀ x ∈ ads, (x.2.1, Dt.lst x.2.2) ∈ M) : SDs X C ss ρ M P :=
  PSs.imp h fun D σ H ⟨Fb, Hb, F, b, I, q'⟩ => by
    have mm : ∀ {a d}, (a, d) ∈ M → F a = none ∧ ∃ h, H a = some h ∧ RepO C F h d := fun {a d} hm => by
      obtain ⟨j, hj⟩ := List.getElem?_of_mem hm
      exact I.m.m j a d hj
    have mi : ∀ {a}, a ∈ M.map (·.1) → F a = none ∧ Hb a = none := fun {a} ha => by
      obtain ⟨j, d, hj⟩ := ix_of_mem ha
      exact ⟨(I.m.m j a d hj).1, b.n j a d hj⟩
    let F2 : Hp := fun a => if a ∈ M.map (·.1) then H a else F a
    have fin : ∀ {a d}, (a, d) ∈ M → F2 a = H a := fun {a d} hm => if_pos (List.mem_map.mpr ⟨_, hm, rfl⟩)
    have f1 : Same F F2 := fun a u e => by
      show (if a ∈ M.map (·.1) then H a else F a) = _
      rw [if_neg fun z => by rw [(mi z).1] at e; cases e]
      exact e
    have f2 : Same F2 H := fun a u e => by
      by_cases ha : a ∈ M.map (·.1)
      · rw [show F2 a = H a from if_pos ha] at e; exact e
      · rw [show F2 a = F a from if_neg ha] at e; exact I.fh _ _ e
    refine ⟨Fb, Hb, F2, ⟨⟨b.x.h, b.x.f.trans f1, f2, fun a ha => ?_⟩, fun j p d hj => by cases hj⟩, ⟨f2, by rw [List.length_set]; exact I.len, fun j d hj => ?_, ⟨fun j p d hj => (by cases hj), by simp⟩⟩, q'⟩
    · rw [show F2 a = F a from if_neg fun z => ha.ne (mi z).2]
      exact b.x.old a ha
    · by_cases hij : i = j
      · subst hij
        obtain ⟨v, hv, rv⟩ := I.sl i _ hi
        have hd : d = dDL (ads.map fun x => (x.1, x.2.2)) := by
          rw [List.getElem?_set_self (List.getElem?_eq_some_iff.mp hi).1] at hj
          injection hj with hj
          injection hj with hj
          exact hj.symm
        subst hd
        rw [rv.inj_ref] at hv
        refine ⟨_, hv, ?_⟩
        obtain ⟨g1, hh, g2, kvs, rfl, hk, hvs⟩ := mm hq
        have g3 : F2 q = some (.dT kvs) := (fin hq).trans g2
        have : RpAll C F2 (kvs.map (·.2)) ((ads.map fun x => (x.1, x.2.2)).map fun kv => Dt.lst kv.2) := by
          rw [List.map_map] at hvs ⊢
          clear g3 g2 hk hq h hj
          generalize kvs.map (·.2) = vs at hvs
          induction ads generalizing vs with
          | nil =>
            rw [List.map_nil] at hvs
            rw [hvs.nil_inv]
            exact .nil
          | cons x r ih =>
            rw [List.map_cons] at hvs
            obtain ⟨u, us, rfl, ru, rus⟩ := hvs.cons_inv
            refine .cons ?_ (ih (fun y hy => hl y (List.mem_cons_of_mem _ hy)) us rus)
            have hx := hl x List.mem_cons_self
            obtain ⟨k1, h', k2, xs, rfl, k3⟩ := mm hx
            rw [show u = V.ref x.2.1 from Rp.inj_ref ru]
            exact .lst ((fin hx).trans k2) (k3.to f1)
        have hk' : kvs.map (·.1) = (ads.map fun x => (x.1, x.2.2)).map fun kv => kP kv.1 := by
          rw [hk, List.map_map, List.map_map]
          rfl
        unfold dDL dD
        rw [← hk']
        exact .dct (.inl g3) this
      · rw [List.getElem?_set_ne hij] at hj
        obtain ⟨v, hv, rv⟩ := I.sl j d hj
        exact ⟨v, hv, rv.to f1⟩
end
end BR
/-! BrX4: crossings. -/
namespace BR
open PySem PySem.Spec PyProof.Rows L2
abbrev Tb := List (Pr × Addr × List Pr)
def rfs (tab : Tb) : List (Pr × Dt) := tab.map fun x => (x.1, Dt.ref x.2.1)
def tabM (q : Addr) (tab : Tb) : Mem := (q, dD id (rfs tab)) :: tab.map fun x => (x.2.1, Dt.lst (x.2.2.map dPr))
def tbl (tab : Tb) : Tab := tab.map fun x => (x.1, x.2.2)
theorem tbl_keys (tab : Tb) : (tbl tab).map (·.1) = tab.map (·.1) := by unfold tbl; rw [List.map_map]; rfl
theorem rfs_keys (tab : Tb) : (rfs tab).map (·.1) = tab.map (·.1) := by unfold rfs; rw [List.map_map]; rfl
theorem gt_inTab {β : Type} (es : List (Pr × β)) (p : Pr) : (gt es p).isSome = inTab es p := by
  cases h : inTab es p with
  | false => rw [gt_none.mpr h]; rfl
  | true =>
    cases hg : gt es p with
    | some _ => rfl
    | none => rw [inTab, gt_none.mp hg] at h; cases h
theorem tabM_put {q a : Addr} {tab : Tb} {k : Pr} (h : k ∉ tab.map (·.1)) : (tabM q tab ++ [(a, Dt.lst [])]).set 0 (q, dD id (pt (rfs tab) k (.ref a))) = tabM q (tab ++ [(k, a, [])]) := by
  have e : pt (rfs tab) k (.ref a) = rfs (tab ++ [(k, a, [])]) := by
    unfold pt
    have : inTab (rfs tab) k = false := by
      rw [Bool.eq_false_iff]
      intro z
      rw [inTab_iff, rfs_keys] at z
      exact h z
    unfold inTab at this
    rw [if_neg (by rw [this]; exact Bool.false_ne_true)]
    unfold rfs
    rw [List.map_append]
    rfl
  rw [e]
  unfold tabM
  rw [List.map_append]
  rfl
theorem tb_ix {tab : Tb} {k : Pr} (h : k ∈ tab.map (·.1)) : ∃ (j : Nat) (a : Addr) (l : List Pr), tab[j]? = some (k, a, l) := by
  obtain ⟨⟨k', a, l⟩, hm, rfl⟩ := List.mem_map.mp h
  obtain ⟨j, hj⟩ := List.getElem?_of_mem hm
  exact ⟨j, a, l, hj⟩
theorem tb_gt : ∀ {tab : Tb} {j : Nat} {k : Pr} {a : Addr} {l : List Pr}, (tab.map (·.1)).Nodup → tab[j]? = some (k, a, l) → gt (rfs tab) k = some (.ref a)
  | [], j, k, a, l, _, h => by simp at h
  | x :: r, 0, k, a, l, nd, h => by
    have e : x = (k, a, l) := by simpa using h
    subst e
    show (if k = k then _ else _) = _
    rw [if_pos rfl]
  | x :: r, j + 1, k, a, l, nd, h => by
    rw [List.map_cons, List.nodup_cons] at nd
    have h' : r[j]? = some (k, a, l) := by simpa using h
    have hne : ¬ x.1 = k := fun z => nd.1 (List.mem_map.mpr ⟨_, List.mem_of_getElem? h', z.symm⟩)
    show (if x.1 = k then _ else gt (rfs r) k) = _
    rw [if_neg hne]
    exact tb_gt nd.2 h'
theorem tbl_gt : ∀ {tab : Tb} {j : Nat} {k : Pr} {a : Addr} {l : List Pr}, (tab.map (·.1)).Nodup → tab[j]? = some (k, a, l) → tbl (tab.set j (k, a, l ++ [o])) = addTo (tbl tab) k o
  | [], j, k, a, l, _, h => by simp at h
  | x :: r, 0, k, a, l, nd, h => by
    have e : x = (k, a, l) := by simpa using h
    subst e
    rw [List.map_cons, List.nodup_cons] at nd
    show (k, l ++ [o]) :: tbl r = (if k = k then (k, l ++ [o]) else (k, l)) :: addTo (tbl r) k o
    rw [if_pos rfl]
    congr 1
    unfold addTo
    refine ((List.map_congr_left fun kv hkv => ?_).trans (List.map_id _)).symm
    have : ¬ kv.1 = k := fun z => nd.1 (by rw [← tbl_keys]; exact List.mem_map.mpr ⟨kv, hkv, z⟩)
    rw [if_neg this]
    rfl
  | x :: r, j + 1, k, a, l, nd, h => by
    rw [List.map_cons, List.nodup_cons] at nd
    have h' : r[j]? = some (k, a, l) := by simpa using h
    have hne : ¬ x.1 = k := fun z => nd.1 (List.mem_map.mpr ⟨_, List.mem_of_getElem? h', z.symm⟩)
    show (x.1, x.2.2) :: tbl (r.set j (k, a, l ++ [o])) = (if x.1 = k then _ else (x.1, x.2.2)) :: addTo (tbl r) k o
    rw [if_neg hne, tbl_gt nd.2 h']
theorem tabM_at {q : Addr} {tab : Tb} {j : Nat} {k : Pr} {a : Addr} {l : List Pr} (h : tab[j]? = some (k, a, l)) : (tabM q tab)[j + 1]? = some (a, .lst (l.map dPr)) := by
  unfold tabM
  rw [List.getElem?_cons_succ, List.getElem?_map, h]
  rfl
theorem set_same_key {α β : Type} {f : α → β} : ∀ {l : List α} {j : Nat} {x y : α}, l[j]? = some x → f x = f y → (l.set j y).map f = l.map f
  | [], j, x, y, h, _ => by simp at h
  | z :: l, 0, x, y, h, e => by
    have : z = x := by simpa using h
    subst this
    show f y :: l.map f = f z :: l.map f
    rw [e]
  | z :: l, j + 1, x, y, h, e => by
    have h' : l[j]? = some x := by simpa using h
    show f z :: (l.set j y).map f = f z :: l.map f
    rw [set_same_key h' e]
theorem tabM_set {q : Addr} {tab : Tb} {j : Nat} {k o : Pr} {a : Addr} {l : List Pr} (h : tab[j]? = some (k, a, l)) : (tabM q tab).set (j + 1) (a, .lst (l.map dPr ++ [dPr o])) = tabM q (tab.set j (k, a, l ++ [o])) := by
  unfold tabM
  rw [List.set_cons_succ, List.map_set]
  have e : rfs (tab.set j (k, a, l ++ [o])) = rfs tab := set_same_key h rfl
  rw [e, List.map_append]
  rfl
def dPP (pq : Pr × Pr) : Dt := .tup [dPr pq.1, dPr pq.2]
structure CrossOk (f : Form) (p q : Pr) : Prop where
  ex : ∃ BX BY : List Int, BX.length < 64 ∧ (∀ k ∈ colsRaw f p q, k ∈ BX) ∧ BY.length < 64 ∧ ∀ k ∈ rowsRaw f p q, k ∈ BY
  lc : (colsRaw f p q).length ≤ 1000
  lr : (rowsRaw f p q).length ≤ 1000
  sp : ∀ s ∈ f, s.2.2.length ≤ 1000
def dTab (es : Tab) : Dt := dD (fun l : List Pr => Dt.lst (l.map dPr)) es
section
variable {P : Program} {w : World} {K : PySem.W.Frag} {mg : Str → Option Value} {base : Heap} {C : Addr}
def rCross : List Dt → Dt → Prop := fun ds d => ∃ (f : Form) (p q : Pr), CrossOk f p q ∧ ds = [dForm f, dPr p, dPr q] ∧ d = dTab (linksOf f p q)
theorem c_crossings_of {f : Addr} {fd : FuncData} (F : Fun K "crossings_of" "crossings_of" s_crossings_of f fd) (hm : mg "crossings_of" = some (.ref f)) (B : NB mg) (cA : CalD P w K mg base C 1 "spans_at" rSpansAt) (cH : CalD P w K mg base C 1 "holds_span" rHolds) (cO : CalD P w K mg base C 2 "is_open" rOpen) : CalD P w K mg base C 3 "crossings_of" rCross :=
  calD F sc_crossings_of hm (fun _ _ _ _ _ _ us hl => match us, hl with | [_, _, _], _ => rfl) (by rintro ds d ⟨f, p, q, _, rfl, _⟩; rfl) fun cdv A outer s H E ds d hr h => by
    obtain ⟨f, p, q, ok, rfl, rfl⟩ := h
    obtain ⟨BX, BY, hX, kX, hY, kY⟩ := ok.ex
    have e1 : (f.flatMap fun s => [Dt.int s.1, Dt.int (s.2.1 - 1)]) = (f.flatMap fun s => [s.1, s.2.1 - 1]).map Dt.int := by rw [List.map_flatMap]; rfl
    have e2 : (f.flatMap fun s => s.2.2.flatMap fun r => [Dt.int r.1, Dt.int (r.2 - 1)]) = (highs f).map Dt.int := by
      unfold highs
      rw [List.map_flatMap]
      congr 1
      funext s
      rw [List.map_flatMap]
      rfl
    have l1 : (f.flatMap fun s => [s.1, s.2.1 - 1]).length ≤ 1000 := by
      have := ok.lc
      unfold colsRaw at this
      rw [List.length_append] at this
      omega
    have l2 : (highs f).length ≤ 1000 := by
      have := ok.lr
      unfold rowsRaw at this
      rw [List.length_append] at this
      omega
    refine sds_cons (sd_set 4 (ev_new (en_sortedSet (ns := colsRaw f p q) BX (Ev.cast (ev_new (en_catL (ev_new (en_lst (ea_cons (ev_ixT (ev_v 1) ev_int) (ea_cons (ev_ixT (ev_v 2) ev_int) ea_nil)))) (ev_new (en_lc (own := [("x1", 12), ("x2", 13), ("spans", 14), ("x", 3)]) (vs' := [3]) (xs := f) (enc := dSlab) (f := fun s => [Dt.int s.1, Dt.int (s.2.1 - 1)]) (ei_tup (ev_v 0)) (eb_t (egs_cons (eb_n 12 sc_crossings_of.nd) (egs_cons (eb_n 13 sc_crossings_of.nd) (egs_cons (eb_n 14 sc_crossings_of.nd) egs_nil))))
      (fun x hx => ⟨_, true, rfl, fun _ _ _ _ _ => ets_nil, fun _ _ _ _ _ _ => ckl (xs := [x.1, x.2.1 - 1]) (enc := Dt.int) (f := fun n => [Dt.int n]) (vs' := []) (ei_tup (ev_tup (ea_cons (ev_v 12) (ea_cons (ev_sub (ev_v 13) ev_int) ea_nil)))) (eg_n 3 sc_crossings_of.nd) (fun n hn => ⟨_, true, rfl, ets_nil, fun _ => ckl_elt (ev_v 3), fun h => nomatch h⟩), fun h => nomatch h⟩)
      (by rw [e1, List.length_map]; omega) sc_crossings_of.nd (blkOk_by (N := n_crossings_of) (sc := defScope s_crossings_of) (by decide +kernel)))) (by rw [e1, List.length_map]; show 2 + _ ≤ _; omega))) ?_) ok.lc hX kX (B.h _ (by decide)) (B.h _ (by decide)))) ?_ sc_crossings_of.nd)
    · rw [e1]
      unfold colsRaw
      rw [List.map_append]
      rfl
    show SDs _ _ _ [some (dForm f), some (dPr p), some (dPr q), none, some (.lst ((sortU (colsRaw f p q)).map Dt.int)), none, none, none, none, none, none, none, none, none, none, none, none, none, none] _ _
    refine sds_cons (sd_setC 6 (el_lc (own := [("x1", 12), ("x2", 13), ("spans", 14), ("y1", 15), ("y2", 16), ("y", 5)]) (vs' := [15, 16, 5]) (xs := f) (enc := dSlab) (f := fun s => s.2.2.flatMap fun r => [Dt.int r.1, Dt.int (r.2 - 1)]) (ei_tup (ev_v 0)) (eb_t (egs_cons (eb_n 12 sc_crossings_of.nd) (egs_cons (eb_n 13 sc_crossings_of.nd) (egs_cons (eb_n 14 sc_crossings_of.nd) egs_nil))))
      (fun x hx => ⟨[some (dForm f), some (dPr p), some (dPr q), none, some (.lst ((sortU (colsRaw f p q)).map Dt.int)), none, none, none, none, none, none, none, some (.int x.1), some (.int x.2.1), some (dSpans x.2.2), none, none, none, none], true, rfl, fun _ _ _ _ _ => ets_nil, fun _ _ _ _ _ _ => ckl (xs := x.2.2) (enc := dPr) (f := fun r => [Dt.int r.1, Dt.int (r.2 - 1)]) (vs' := [5]) (ei_tup (ev_v 14)) (eg_t (egs_cons (eg_n 15 sc_crossings_of.nd) (egs_cons (eg_n 16 sc_crossings_of.nd) egs_nil)))
        (fun r hr => ⟨[some (dForm f), some (dPr p), some (dPr q), none, some (.lst ((sortU (colsRaw f p q)).map Dt.int)), none, none, none, none, none, none, none, some (.int x.1), some (.int x.2.1), some (dSpans x.2.2), some (.int r.1), some (.int r.2), none, none], true, rfl, ets_nil, fun _ => ckl (xs := [r.1, r.2 - 1]) (enc := Dt.int) (f := fun n => [Dt.int n]) (vs' := []) (ei_tup (ev_tup (ea_cons (ev_v 15) (ea_cons (ev_sub (ev_v 16) ev_int) ea_nil)))) (eg_n 5 sc_crossings_of.nd) (fun n hn => ⟨[some (dForm f), some (dPr p), some (dPr q), none, some (.lst ((sortU (colsRaw f p q)).map Dt.int)), some (.int n), none, none, none, none, none, none, some (.int x.1), some (.int x.2.1), some (dSpans x.2.2), some (.int r.1), some (.int r.2), none, none], true, rfl, ets_nil, fun _ => ckl_elt (ev_v 5), fun h => nomatch h⟩), fun h => nomatch h⟩), fun h => nomatch h⟩)
      (by rw [e2, List.length_map]; omega) sc_crossings_of.nd (blkOk_by (N := n_crossings_of) (sc := defScope s_crossings_of) (by decide +kernel))) ?_)
    rw [e2]
    show SDs _ _ _ [some (dForm f), some (dPr p), some (dPr q), none, some (.lst ((sortU (colsRaw f p q)).map Dt.int)), none, some (.lst ((highs f).map Dt.int)), none, none, none, none, none, none, none, none, none, none, none, none] _ _
    refine sds_cons (sd_set 7 (ev_new (en_sortedSet (ns := rowsRaw f p q) BY (Ev.cast (ev_new (en_catL (ev_new (en_lst (ea_cons (ev_ixT (ev_v 1) ev_int) (ea_cons (ev_ixT (ev_v 2) ev_int) ea_nil)))) (ev_v 6) (by rw [List.length_map]; show 2 + _ ≤ _; omega))) ?_) ok.lr hY kY (B.h _ (by decide)) (B.h _ (by decide)))) ?_ sc_crossings_of.nd)
    · unfold rowsRaw
      rw [List.map_append]
      rfl
    have lX : (sortU (colsRaw f p q)).length ≤ 63 := Nat.le_trans (sortU_len kX) (by omega)
    have lY : (sortU (rowsRaw f p q)).length ≤ 63 := Nat.le_trans (sortU_len kY) (by omega)
    have nX : (sortU (colsRaw f p q)).Nodup := sortU_pw.imp fun h => Int.ne_of_lt h
    have nY : (sortU (rowsRaw f p q)).Nodup := sortU_pw.imp fun h => Int.ne_of_lt h
    refine SDs.le (ρ' := [some (dForm f), some (dPr p), some (dPr q), none, some (.lst ((sortU (colsRaw f p q)).map Dt.int)), none, none, some (.lst ((sortU (rowsRaw f p q)).map Dt.int)), none, none, none, none, none, none, none, none, none, none, none]) ?_ (by repeat (first | exact Le.nil | apply Le.some | apply Le.none))
    unfold linksOf
    generalize sortU (colsRaw f p q) = cols at lX nX
    generalize sortU (rowsRaw f p q) = rows at lY nY
    dsimp only
    refine sds_cons (sd_setK 8 (ek_d0 fun qd => ?_) sc_crossings_of.nd)
    show SDs _ _ _ [some (dForm f), some (dPr p), some (dPr q), none, some (.lst (cols.map Dt.int)), none, none, some (.lst (rows.map Dt.int)), some (.ref qd), none, none, none, none, none, none, none, none, none, none] _ _
    have kn : ∀ a b : List Int, a.length ≤ 63 → b.length ≤ 63 → (knots f a b).length ≤ 63 * 63 := fun a b h1 h2 => by
      refine Nat.le_trans (flat_len (n := 63) fun x _ => ?_) (Nat.mul_le_mul_right _ h1)
      unfold knotAt
      rw [List.length_map]
      exact Nat.le_trans (List.length_filter_le ..) h2
    refine sds_cons (sd_forX (xs := cols) (enc := Dt.int) (ei_lst (ev_v 4)) (eg_n 3 sc_crossings_of.nd) (fun pre ρ1 M1 => ∃ tab : Tb, tbl tab = (knots f pre rows).map (fun k => (k, [])) ∧ ρ1 = [some (dForm f), some (dPr p), some (dPr q), none, some (.lst (cols.map Dt.int)), none, none, some (.lst (rows.map Dt.int)), some (.ref qd), none, none, none, none, none, none, none, none, none, none] ∧ M1 = tabM qd tab) ⟨[], rfl, rfl, rfl⟩ ?_ ?_)
    · rintro pre x post ρ1 M1 e ⟨tab, htab, rfl, rfl⟩
      refine ⟨[some (dForm f), some (dPr p), some (dPr q), some (.int x), some (.lst (cols.map Dt.int)), none, none, some (.lst (rows.map Dt.int)), some (.ref qd), none, none, none, none, none, none, none, none, none, none], rfl, ?_⟩
      have hxn : x ∉ pre := fun z => by
        rw [e] at nX
        exact (List.nodup_append.mp nX).2.2 x z x List.mem_cons_self rfl
      have hpl : pre.length ≤ 63 := by
        rw [e, List.length_append] at lX
        omega
      refine sds_cons (sd_forX (xs := rows) (enc := Dt.int) (ei_lst (ev_v 7)) (eg_n 5 sc_crossings_of.nd) (fun rpre ρ1 M1 => ∃ tab : Tb, tbl tab = (knots f pre rows ++ knotAt f x rpre).map (fun k => (k, [])) ∧ ρ1 = [some (dForm f), some (dPr p), some (dPr q), some (.int x), some (.lst (cols.map Dt.int)), none, none, some (.lst (rows.map Dt.int)), some (.ref qd), none, none, none, none, none, none, none, none, none, none] ∧ M1 = tabM qd tab) ⟨tab, by rw [htab]; unfold knotAt; simp, rfl, rfl⟩ ?_ ?_)
      · clear htab tab
        rintro rpre y rpost ρ1 M1 er ⟨tab, htab, rfl, rfl⟩
        refine ⟨[some (dForm f), some (dPr p), some (dPr q), some (.int x), some (.lst (cols.map Dt.int)), some (.int y), none, some (.lst (rows.map Dt.int)), some (.ref qd), none, none, none, none, none, none, none, none, none, none], rfl, ?_⟩
        have hyn : y ∉ rpre := fun z => by
          rw [er] at nY
          exact (List.nodup_append.mp nY).2.2 y z y List.mem_cons_self rfl
        refine sds_cons (sd_if (et_val (ev_call cH hr (ea_cons (ev_call cA hr (ea_cons (ev_v 0) (ea_cons (ev_v 3) ea_nil)) ⟨f, x, rfl, rfl⟩) (ea_cons (ev_tup (ea_cons (ev_v 5) (ea_cons (ev_add (ev_v 5) ev_int) ea_nil))) ea_nil)) ⟨spansAt f x, y, y + 1, spansAt_in ok.sp, rfl, rfl⟩)) (fun hb => ?_) fun hb => ?_)
        · have hk : (x, y) ∉ tab.map (·.1) := fun z => by
            rw [← tbl_keys, htab, List.map_map] at z
            obtain ⟨k, hk, ek⟩ := List.mem_map.mp z
            have ek : k = (x, y) := ek
            subst ek
            rcases List.mem_append.mp hk with hk | hk
            · exact hxn (mem_knots.mp hk).1
            · exact hyn (mem_knotAt.mp hk).2.1
          have hlen : tab.length ≤ 100000 := by
            have h1 := congrArg List.length htab
            unfold tbl at h1
            rw [List.length_map, List.length_map, List.length_append] at h1
            have h2 := kn pre rows hpl lY
            have h3 : (knotAt f x rpre).length ≤ 63 := by
              unfold knotAt
              rw [List.length_map]
              refine Nat.le_trans (List.length_filter_le ..) ?_
              rw [er, List.length_append] at lY
              omega
            omega
          refine sds_cons (sd_putK (q := qd) (p := (x, y)) (ek_n (en_lst ea_nil) fun pa => ⟨0, rfs tab, rfl, by unfold rfs; rw [List.length_map]; exact hlen, ?_⟩) (fun M' => ev_v 8) (fun M' => ev_tup (ea_cons (ev_v 3) (ea_cons (ev_v 5) ea_nil))) ⟨_, hr⟩)
          rw [tabM_put hk]
          refine sds_nil (sds_nil ⟨[some (dForm f), some (dPr p), some (dPr q), some (.int x), some (.lst (cols.map Dt.int)), none, none, some (.lst (rows.map Dt.int)), some (.ref qd), none, none, none, none, none, none, none, none, none, none], by repeat (first | exact Le.nil | apply Le.some | apply Le.none), tab ++ [((x, y), pa, [])], ?_, rfl, rfl⟩)
          rw [knotAt_snoc, if_pos hb]
          unfold tbl at htab ⊢
          rw [List.map_append, htab, ← List.append_assoc, List.map_append (l₂ := [(x, y)])]
          rfl
        · refine sds_nil (sds_nil ⟨[some (dForm f), some (dPr p), some (dPr q), some (.int x), some (.lst (cols.map Dt.int)), none, none, some (.lst (rows.map Dt.int)), some (.ref qd), none, none, none, none, none, none, none, none, none, none], by repeat (first | exact Le.nil | apply Le.some | apply Le.none), tab, ?_, rfl, rfl⟩)
          rw [knotAt_snoc, if_neg (by rw [hb]; exact Bool.false_ne_true), List.append_nil]
          exact htab
      · clear htab tab
        rintro ρ1 M1 ⟨tab, htab, rfl, rfl⟩
        refine sds_nil ⟨[some (dForm f), some (dPr p), some (dPr q), none, some (.lst (cols.map Dt.int)), none, none, some (.lst (rows.map Dt.int)), some (.ref qd), none, none, none, none, none, none, none, none, none, none], by repeat (first | exact Le.nil | apply Le.some | apply Le.none), tab, ?_, rfl, rfl⟩
        rw [knots_app, knots_one]
        exact htab
    rintro ρ1 M1 ⟨tab, htab, rfl, rfl⟩
    have e3 : (cols.flatMap fun x => (adj rows).flatMap fun ab => [dPP ((x, ab.1), (x, ab.2))]) = (upPairs cols rows).map dPP := by
      unfold upPairs
      rw [List.map_flatMap]
      congr 1
      funext x
      rw [flatMap_one, List.map_map]
      rfl
    have e4 : (rows.flatMap fun y => (adj cols).flatMap fun ab => [dPP ((ab.1, y), (ab.2, y))]) = (acrossPairs cols rows).map dPP := by
      unfold acrossPairs
      rw [List.map_flatMap]
      congr 1
      funext x
      rw [flatMap_one, List.map_map]
      rfl
    have lU : (upPairs cols rows).length ≤ 63 * 63 := Nat.le_trans (flat_len (n := 63) fun x _ => by rw [List.length_map]; exact Nat.le_trans (adj_length_le _) lY) (Nat.mul_le_mul_right _ lX)
    have lA : (acrossPairs cols rows).length ≤ 63 * 63 := Nat.le_trans (flat_len (n := 63) fun x _ => by rw [List.length_map]; exact Nat.le_trans (adj_length_le _) lX) (Nat.mul_le_mul_right _ lY)
    refine sds_cons (sd_setC 9 (el_lc (own := [("x", 3), ("a", 17), ("b", 18)]) (vs' := [17, 18]) (xs := cols) (enc := Dt.int) (f := fun x => (adj rows).flatMap fun ab => [dPP ((x, ab.1), (x, ab.2))]) (ei_lst (ev_v 4)) (eb_n 3 sc_crossings_of.nd)
      (fun x hx => ⟨[some (dForm f), some (dPr p), some (dPr q), some (.int x), some (.lst (cols.map Dt.int)), none, none, some (.lst (rows.map Dt.int)), some (.ref qd), none, none, none, none, none, none, none, none, none, none], true, rfl, fun _ _ _ _ _ => ets_nil, fun _ _ _ _ _ _ => ckl (xs := adj rows) (enc := dPr) (f := fun ab => [dPP ((x, ab.1), (x, ab.2))]) (vs' := []) (ei_adj 7 rfl (B.h _ (by decide))) (eg_t (egs_cons (eg_n 17 sc_crossings_of.nd) (egs_cons (eg_n 18 sc_crossings_of.nd) egs_nil)))
        (fun r hr => ⟨[some (dForm f), some (dPr p), some (dPr q), some (.int x), some (.lst (cols.map Dt.int)), none, none, some (.lst (rows.map Dt.int)), some (.ref qd), none, none, none, none, none, none, none, none, some (.int r.1), some (.int r.2)], true, rfl, ets_nil, fun _ => ckl_elt (ev_tup (ea_cons (ev_tup (ea_cons (ev_v 3) (ea_cons (ev_v 17) ea_nil))) (ea_cons (ev_tup (ea_cons (ev_v 3) (ea_cons (ev_v 18) ea_nil))) ea_nil))), fun h => nomatch h⟩), fun h => nomatch h⟩)
      (by rw [e3, List.length_map]; omega) sc_crossings_of.nd (blkOk_by (N := n_crossings_of) (sc := defScope s_crossings_of) (by decide +kernel))) ?_)
    rw [e3]
    show SDs _ _ _ [some (dForm f), some (dPr p), some (dPr q), none, some (.lst (cols.map Dt.int)), none, none, some (.lst (rows.map Dt.int)), some (.ref qd), some (.lst ((upPairs cols rows).map dPP)), none, none, none, none, none, none, none, none, none] _ _
    refine sds_cons (sd_set 9 (d := .lst ((upPairs cols rows ++ acrossPairs cols rows).map dPP)) (Ev.cast (ev_new (en_catL (ev_v 9) (ev_new (en_lc (own := [("y", 5), ("a", 17), ("b", 18)]) (vs' := [17, 18]) (xs := rows) (enc := Dt.int) (f := fun y => (adj cols).flatMap fun ab => [dPP ((ab.1, y), (ab.2, y))]) (ei_lst (ev_v 7)) (eb_n 5 sc_crossings_of.nd)
      (fun y hy => ⟨[some (dForm f), some (dPr p), some (dPr q), none, some (.lst (cols.map Dt.int)), some (.int y), none, some (.lst (rows.map Dt.int)), some (.ref qd), some (.lst ((upPairs cols rows).map dPP)), none, none, none, none, none, none, none, none, none], true, rfl, fun _ _ _ _ _ => ets_nil, fun _ _ _ _ _ _ => ckl (xs := adj cols) (enc := dPr) (f := fun ab => [dPP ((ab.1, y), (ab.2, y))]) (vs' := []) (ei_adj 4 rfl (B.h _ (by decide))) (eg_t (egs_cons (eg_n 17 sc_crossings_of.nd) (egs_cons (eg_n 18 sc_crossings_of.nd) egs_nil)))
        (fun r hr => ⟨[some (dForm f), some (dPr p), some (dPr q), none, some (.lst (cols.map Dt.int)), some (.int y), none, some (.lst (rows.map Dt.int)), some (.ref qd), some (.lst ((upPairs cols rows).map dPP)), none, none, none, none, none, none, none, some (.int r.1), some (.int r.2)], true, rfl, ets_nil, fun _ => ckl_elt (ev_tup (ea_cons (ev_tup (ea_cons (ev_v 17) (ea_cons (ev_v 5) ea_nil))) (ea_cons (ev_tup (ea_cons (ev_v 18) (ea_cons (ev_v 5) ea_nil))) ea_nil))), fun h => nomatch h⟩), fun h => nomatch h⟩)
      (by rw [e4, List.length_map]; omega) sc_crossings_of.nd (blkOk_by (N := n_crossings_of) (sc := defScope s_crossings_of) (by decide +kernel)))) (by rw [e4, List.length_map, List.length_map]; omega))) (by rw [e4, List.map_append])) ?_ sc_crossings_of.nd)
    have lP : (upPairs cols rows ++ acrossPairs cols rows).length ≤ 2 * (63 * 63) := by rw [List.length_append]; omega
    generalize upPairs cols rows ++ acrossPairs cols rows = prs at lP
    have nd0 : (tab.map (·.1)).Nodup := by
      rw [← tbl_keys, htab, List.map_map]
      exact (knots_nodup nX nY).map _ (fun a b h e => h e)
    rw [← htab]
    refine sds_cons (sd_forX (xs := prs) (enc := dPP) (ei_lst (ev_v 9)) (eg_t (egs_cons (eg_n 10 sc_crossings_of.nd) (egs_cons (eg_n 11 sc_crossings_of.nd) egs_nil))) (fun pre ρ1 M1 => ∃ tab1 : Tb, tbl tab1 = pre.foldl (linkStep f) (tbl tab) ∧ (∀ z ∈ tab1, z.2.2.length ≤ 2 * pre.length) ∧ ρ1 = [some (dForm f), some (dPr p), some (dPr q), none, some (.lst (cols.map Dt.int)), none, none, some (.lst (rows.map Dt.int)), some (.ref qd), some (.lst (prs.map dPP)), none, none, none, none, none, none, none, none, none] ∧ M1 = tabM qd tab1) ⟨tab, rfl, ?_, rfl, rfl⟩ ?_ ?_)
    · intro z hz
      have : (z.1, z.2.2) ∈ tbl tab := List.mem_map.mpr ⟨z, hz, rfl⟩
      rw [htab] at this
      obtain ⟨k, _, ek⟩ := List.mem_map.mp this
      rw [← (Prod.mk.inj ek).2]
      exact Nat.zero_le _
    · rintro pre pq post ρ1 M1 e ⟨tab1, htab1, hlen1, rfl, rfl⟩
      have nd1 : (tab1.map (·.1)).Nodup := by rw [← tbl_keys, htab1, linkFold_keys, tbl_keys]; exact nd0
      have hpre : pre.length + 1 ≤ 2 * (63 * 63) := by
        rw [e, List.length_append, List.length_cons] at lP
        omega
      have g1 : ∀ k, (gt (rfs tab1) k).isSome = inTab (tbl tab1) k := fun k => by
        rw [gt_inTab]
        exact inTab_keys (by rw [rfs_keys, tbl_keys]) k
      refine ⟨[some (dForm f), some (dPr p), some (dPr q), none, some (.lst (cols.map Dt.int)), none, none, some (.lst (rows.map Dt.int)), some (.ref qd), some (.lst (prs.map dPP)), some (dPr pq.1), some (dPr pq.2), none, none, none, none, none, none, none], rfl, ?_⟩
      refine sds_cons (sd_if (k := inTab (tbl tab1) pq.1 && (inTab (tbl tab1) pq.2 && isOpen f pq.1 pq.2)) (EvT.cast' (et_view 0 8 (p := qd) (d0 := dD id (rfs tab1)) (EvW.t (ew_and (et_inD hr (ev_v 10) (ev_v 8)) fun _ => ew_and (et_inD hr (ev_v 11) (ev_v 8)) fun _ => ew_and1 (et_val (ev_call cO hr (ea_cons (ev_v 0) (ea_cons (ev_v 10) (ea_cons (ev_v 11) ea_nil))) ⟨f, pq.1, pq.2, ok.sp, rfl, rfl⟩))))) ?_) (fun hb => ?_) fun hb => ?_)
      · rw [g1, g1]
      · have hb' := hb
        rw [Bool.and_eq_true, Bool.and_eq_true] at hb'
        obtain ⟨hb1, hb2, _⟩ := hb'
        rw [inTab_iff, tbl_keys] at hb1 hb2
        obtain ⟨j, a, l, hj⟩ := tb_ix hb1
        have hl := hlen1 _ (List.mem_of_getElem? hj)
        refine sds_cons (sd_app (j + 1) (ev_view 0 8 (p := qd) (d0 := dD id (rfs tab1)) (ev_getD (enc := id) (b := Dt.ref a) hr (ev_v 8) (ev_v 10) (tb_gt nd1 hj))) (ev_v 11) (tabM_at hj) (by rw [List.length_map]; dsimp only at hl; omega) ?_)
        rw [tabM_set hj]
        have hk2 : (tab1.set j (pq.1, a, l ++ [pq.2])).map (·.1) = tab1.map (·.1) := set_same_key hj rfl
        have nd2 : ((tab1.set j (pq.1, a, l ++ [pq.2])).map (·.1)).Nodup := by rw [hk2]; exact nd1
        have ht2 := tbl_gt (o := pq.2) nd1 hj
        have hlen2 : ∀ z ∈ tab1.set j (pq.1, a, l ++ [pq.2]), z.2.2.length ≤ 2 * pre.length + 1 := fun z hz => by
          rcases List.mem_or_eq_of_mem_set hz with h | h
          · exact Nat.le_succ_of_le (hlen1 z h)
          · subst h
            show (l ++ [pq.2]).length ≤ _
            rw [List.length_append]
            exact Nat.succ_le_succ hl
        generalize tab1.set j (pq.1, a, l ++ [pq.2]) = tab2 at hk2 nd2 ht2 hlen2
        rw [← hk2] at hb2
        obtain ⟨j2, a2, l2, hj2⟩ := tb_ix hb2
        have hl2 := hlen2 _ (List.mem_of_getElem? hj2)
        refine sds_cons (sd_app (j2 + 1) (ev_view 0 8 (p := qd) (d0 := dD id (rfs tab2)) (ev_getD (enc := id) (b := Dt.ref a2) hr (ev_v 8) (ev_v 11) (tb_gt nd2 hj2))) (ev_v 10) (tabM_at hj2) (by rw [List.length_map]; dsimp only at hl2; omega) (sds_nil (sds_nil ?_)))
        rw [tabM_set hj2]
        refine ⟨[some (dForm f), some (dPr p), some (dPr q), none, some (.lst (cols.map Dt.int)), none, none, some (.lst (rows.map Dt.int)), some (.ref qd), some (.lst (prs.map dPP)), none, none, none, none, none, none, none, none, none], by repeat (first | exact Le.nil | apply Le.some | apply Le.none), tab2.set j2 (pq.2, a2, l2 ++ [pq.1]), ?_, fun z hz => ?_, rfl, rfl⟩
        · rw [tbl_gt nd2 hj2, ht2, List.foldl_append, ← htab1]
          show _ = linkStep f (tbl tab1) pq
          unfold linkStep
          rw [if_pos hb]
        · rw [List.length_append, List.length_singleton]
          rcases List.mem_or_eq_of_mem_set hz with h | h
          · exact Nat.le_trans (hlen2 z h) (by omega)
          · subst h
            show (l2 ++ [pq.1]).length ≤ _
            rw [List.length_append, List.length_singleton]
            dsimp only at hl2
            omega
      · refine sds_nil (sds_nil ⟨[some (dForm f), some (dPr p), some (dPr q), none, some (.lst (cols.map Dt.int)), none, none, some (.lst (rows.map Dt.int)), some (.ref qd), some (.lst (prs.map dPP)), none, none, none, none, none, none, none, none, none], by repeat (first | exact Le.nil | apply Le.some | apply Le.none), tab1, ?_, fun z hz => ?_, rfl, rfl⟩)
        · rw [List.foldl_append, ← htab1]
          show _ = linkStep f (tbl tab1) pq
          unfold linkStep
          rw [if_neg (by rw [hb]; exact Bool.false_ne_true)]
        · rw [List.length_append, List.length_singleton]
          have := hlen1 z hz
          omega
    · rintro ρ1 M1 ⟨tab1, htab1, _, rfl, rfl⟩
      have eD : dDL ((tab1.map fun z => (z.1, z.2.1, z.2.2.map dPr)).map fun x => (x.1, x.2.2)) = dTab (tbl tab1) := by
        unfold dDL dTab dD tbl
        simp only [List.map_map]
        rfl
      refine sds_freezeD 8 (q := qd) (tab1.map fun z => (z.1, z.2.1, z.2.2.map dPr)) ?_ rfl ?_ ?_
      · rw [eD, htab1]
        exact sds_cons (sd_ret (ev_v 8) rfl)
      · have : ((tab1.map fun z => (z.1, z.2.1, z.2.2.map dPr)).map fun x => (x.1, Dt.ref x.2.1)) = rfs tab1 := by
          unfold rfs
          rw [List.map_map]
          rfl
        rw [this]
        exact List.mem_cons_self
      · intro x hx
        obtain ⟨z, hz, rfl⟩ := List.mem_map.mp hx
        exact List.mem_cons_of_mem _ (List.mem_map.mpr ⟨z, hz, rfl⟩)
end
end BR
/-! BrX5: the way. -/
namespace BR
open PySem PySem.Spec PyProof.Rows L2
def dOP : Option Pr → Dt
  | none => .non
  | some p => dPr p
def dFound : Option (Int × Dn) → Pr → Dt
  | none, _ => .non
  | some (n, dn), q => .tup [.int n, .lst ((chain dn dn.length q).reverse.map dPr)]
structure FoundOk (f : Form) (o : Bool) (p q : Pr) : Prop where
  near : o = true → NearOk f p q
  cross : CrossOk (nearForm f o p q) p q
  st : p ∈ (linksOf (nearForm f o p q) p q).map (·.1)
theorem CrossOk.cols {f : Form} {p q : Pr} (ok : CrossOk f p q) : (sortU (colsRaw f p q)).length ≤ 63 ∧ (sortU (rowsRaw f p q)).length ≤ 63 := by
  obtain ⟨BX, BY, hX, kX, hY, kY⟩ := ok.ex
  exact ⟨Nat.le_trans (sortU_len kX) (by omega), Nat.le_trans (sortU_len kY) (by omega)⟩
theorem CrossOk.nd {f : Form} {p q : Pr} : ((linksOf f p q).map (·.1)).Nodup := by
  rw [links_keys]
  exact knots_nodup (sortU_pw.imp fun h => Int.ne_of_lt h) (sortU_pw.imp fun h => Int.ne_of_lt h)
theorem CrossOk.deg {f : Form} {p q : Pr} (ok : CrossOk f p q) : degL (linksOf f p q) ≤ 16000 := by
  obtain ⟨h1, h2⟩ := ok.cols
  have lU : (upPairs (sortU (colsRaw f p q)) (sortU (rowsRaw f p q))).length ≤ 63 * 63 := Nat.le_trans (flat_len (n := 63) fun x _ => by rw [List.length_map]; exact Nat.le_trans (adj_length_le _) h2) (Nat.mul_le_mul_right _ h1)
  have lA : (acrossPairs (sortU (colsRaw f p q)) (sortU (rowsRaw f p q))).length ≤ 63 * 63 := Nat.le_trans (flat_len (n := 63) fun x _ => by rw [List.length_map]; exact Nat.le_trans (adj_length_le _) h1) (Nat.mul_le_mul_right _ h2)
  have k := linkFold_deg f (upPairs (sortU (colsRaw f p q)) (sortU (rowsRaw f p q)) ++ acrossPairs (sortU (colsRaw f p q)) (sortU (rowsRaw f p q))) ((knots f (sortU (colsRaw f p q)) (sortU (rowsRaw f p q))).map fun k => (k, [])) (by
    rw [List.map_map]
    exact (knots_nodup (sortU_pw.imp fun h => Int.ne_of_lt h) (sortU_pw.imp fun h => Int.ne_of_lt h)).map _ (fun a b h e => h e))
  have z : degL ((knots f (sortU (colsRaw f p q)) (sortU (rowsRaw f p q))).map fun k => (k, ([] : List Pr))) = 0 := by
    generalize knots f (sortU (colsRaw f p q)) (sortU (rowsRaw f p q)) = ks
    induction ks with
    | nil => rfl
    | cons a r ih =>
      unfold degL at ih ⊢
      rw [List.map_cons, List.map_cons, List.sum_cons, ih]
      rfl
  rw [z, List.length_append] at k
  have : degL (linksOf f p q) ≤ 0 + 2 * ((upPairs (sortU (colsRaw f p q)) (sortU (rowsRaw f p q))).length + (acrossPairs (sortU (colsRaw f p q)) (sortU (rowsRaw f p q))).length) := k
  omega
theorem gt_nbrs {es : Tab} {k : Pr} (h : k ∈ es.map (·.1)) : gt es k = some (nbrs es k) := by
  induction es with
  | nil => cases h
  | cons kv r ih =>
    unfold gt nbrs
    by_cases hk : kv.1 = k
    · rw [if_pos hk, if_pos hk]
    · rw [if_neg hk, if_neg hk]
      rw [List.map_cons, List.mem_cons] at h
      exact ih (h.resolve_left fun z => hk z.symm)
theorem gt_at {pre post : Dn} {p : Pr} {b : Option Pr} (h : p ∉ pre.map (·.1)) : gt (pre ++ (p, b) :: post) p = some b := by
  induction pre with
  | nil =>
    show (if p = p then some b else _) = some b
    rw [if_pos rfl]
  | cons kv r ih =>
    rw [List.map_cons, List.mem_cons, not_or] at h
    show (if kv.1 = p then _ else gt (r ++ (p, b) :: post) p) = some b
    rw [if_neg (fun z => h.1 z.symm)]
    exact ih h.2
theorem pt_snoc {dn : Dn} {k : Pr} {b : Option Pr} (h : inD dn k = false) : pt dn k b = dn ++ [(k, b)] := by
  unfold pt
  unfold inD inTab at h
  rw [if_neg (by rw [h]; exact Bool.false_ne_true)]
def stepRes (es : Tab) (q : Pr) (N : Nat) (n : Int) (here : Pr) (bef : Option Pr) (h : List E3) (dn : Dn) : Option (Int × Dn) :=
  if inD dn here = true then search es q N h dn
  else if here = q then some (n, dn ++ [(here, bef)])
  else search es q N (pushAll n here (dn ++ [(here, bef)]) (nbrs es here) h) (dn ++ [(here, bef)])
section
variable {X : Cx} {C : Addr} {ρ : DE} {M : Mem} {e : Expr} {ds : List Dt} {p1 p2 p3 pos : Pos}
theorem en_rev {k : Nat} (he : Ev X C ρ M e (.lst ds)) : EvN X C ρ M (.Subscript e (.Slice none none (some (.UnaryOp .USub (.Constant (.int 1) k p1) p2)) p3) pos) ds.reverse :=
  PE.imp (pe_revL he) fun σ H Q ⟨F, I, q⟩ => ⟨F, I, fun v F1 H1 e1 r1 => by
    have I1 := I.ext e1
    obtain ⟨a, xs, rfl, ha, rx⟩ := r1.inj_lst
    refine ⟨a, xs, rfl, .inl (.of (I1.fh _ _ ha)), fun s hs => ?_⟩
    exact q s _ F1 _ (e1.free hs) (e1.trans (.newH I1.fh hs)) (I1.fh.free hs) upd_same rx.reverse⟩
end
section
variable {P : Program} {w : World} {K : PySem.W.Frag} {mg : Str → Option Value} {base : Heap} {C : Addr}
def rFound : List Dt → Dt → Prop := fun ds d => ∃ (f : Form) (o : Bool) (p q : Pr), FoundOk f o p q ∧ ds = [.reg (dForm f) o, dPr p, dPr q] ∧ d = dFound (foundOf (linksOf (nearForm f o p q) p q) p q) q
theorem c_found_way {f : Addr} {fd : FuncData} (F : Fun K "found_way" "found_way" s_found_way f fd) (hm : mg "found_way" = some (.ref f)) (B : NB mg) (cN : CalD P w K mg base C 4 "near_form" rNear) (cC : CalD P w K mg base C 3 "crossings_of" rCross) (cT : CalM P w K mg base C 1 "take_least" rTake) (cP : CalM P w K mg base C 1 "put_in" rPut) (cS : CalD P w K mg base C 1 "steps_between" rSteps) : CalD P w K mg base C 5 "found_way" rFound :=
  calD F sc_found_way hm (fun _ _ _ _ _ _ us hl => match us, hl with | [_, _, _], _ => rfl) (by rintro ds d ⟨f, o, p, q, _, rfl, _⟩; rfl) fun cdv A outer s H E ds d hr h => by
    obtain ⟨f, o, p, q, ok, rfl, rfl⟩ := h
    refine sds_cons (sd_set 3 (ev_call cC hr (ea_cons (ev_call cN hr (ea_cons (ev_v 0) (ea_cons (ev_v 1) (ea_cons (ev_v 2) ea_nil))) ⟨f, o, p, q, ok.near, rfl, rfl⟩) (ea_cons (ev_v 1) (ea_cons (ev_v 2) ea_nil))) ⟨_, p, q, ok.cross, rfl, rfl⟩) ?_ sc_found_way.nd)
    have hcl := links_closed (nearForm f o p q) p q
    have hdg := ok.cross.deg
    have hst := ok.st
    generalize linksOf (nearForm f o p q) p q = es at hcl hdg hst
    refine sds_cons (sd_parK 4 5 (eka_cons (ek_n (en_lst (ea_cons (ev_tup (ea_cons ev_int (ea_cons (ev_v 1) (ea_cons ev_non ea_nil)))) ea_nil)) fun ph => eka_cons (ek_d0 fun pd => eka_nil ⟨_, _, rfl, ?_⟩))) sc_found_way.nd)
    show SDs _ _ _ [some (.reg (dForm f) o), some (dPr p), some (dPr q), some (dTab es), some (.ref ph), some (.ref pd), none, none, none, none, none] [(ph, Dt.lst [.tup [.int 0, dPr p, .non]]), (pd, dD dOP [])] _
    refine sds_cons (sd_while (fun m ρ1 M1 => ρ1 = [some (.reg (dForm f) o), some (dPr p), some (dPr q), some (dTab es), some (.ref ph), some (.ref pd), none, none, none, none, none] ∧ ((m = 100000 ∧ M1 = [(ph, Dt.lst [.tup [.int 0, dPr p, .non]]), (pd, dD dOP [])]) ∨ ∃ (h : List E3) (dn : Dn) (N : Nat), m = h.length + budget es dn ∧ h.length + budget es dn ≤ N ∧ dn.length + h.length + budget es dn ≤ 20000 ∧ GoodD dn ∧ (∀ e ∈ h, inD dn e.2.2 = true ∧ e.2.1 ∈ es.map (·.1)) ∧ search es q N h dn = foundOf es p q ∧ M1 = [(ph, Dt.lst (h.map dE)), (pd, dD dOP dn)])) 100000 ⟨rfl, .inl ⟨rfl, rfl⟩⟩ ?_)
    rintro m ρ1 M1 ⟨rfl, hI⟩
    have body : ∀ rest : List Stmt, True := fun _ => trivial
    by_cases hne : ∃ (dn : Dn) (N : Nat), M1 = [(ph, Dt.lst (([] : List E3).map dE)), (pd, dD dOP dn)] ∧ search es q N [] dn = foundOf es p q
    · obtain ⟨dn, N, rfl, hres⟩ := hne
      refine ⟨false, et_view 0 4 (d0 := .lst (([] : List E3).map dE)) (et_neX (x := []) (y := []) cpr_e.lst hr (ev_v 4) (ev_new (en_lst ea_nil))), fun h => (by cases h), fun _ => ?_⟩
      refine sds_cons (sd_ret ev_non ?_)
      have : foundOf es p q = none := by
        rw [← hres]
        cases N <;> rfl
      rw [this]
      rfl
    · refine ⟨true, ?_, fun _ => ?_, fun h => by cases h⟩
      · rcases hI with ⟨_, rfl⟩ | ⟨h, dn, N, _, _, _, _, _, hres, rfl⟩
        · exact et_view 0 4 (d0 := .lst [.tup [.int 0, dPr p, .non]]) (et_neLen hr (ev_v 4) (ev_new (en_lst ea_nil)) (by simp))
        · have hn : h ≠ [] := fun z => by subst z; exact hne ⟨dn, N, rfl, hres⟩
          refine et_view 0 4 (d0 := .lst (h.map dE)) (EvT.cast' (et_neX (x := h) (y := []) cpr_e.lst hr (ev_v 4) (ev_new (en_lst ea_nil))) ?_)
          rw [decide_eq_false hn]
          rfl
      refine sds_cons (SD.mono (P' := { nx := fun ρ' M' => ∃ (n : Int) (here : Pr) (bef : Option Pr) (h : List E3) (dn : Dn) (N : Nat), ρ' = [some (.reg (dForm f) o), some (dPr p), some (dPr q), some (dTab es), some (.ref ph), some (.ref pd), some (.int n), some (dPr here), some (dOP bef), none, none] ∧ M' = [(ph, Dt.lst (h.map dE)), (pd, dD dOP dn)] ∧ GoodD dn ∧ (∀ b, bef = some b → inD dn b = true) ∧ here ∈ es.map (·.1) ∧ (∀ e ∈ h, inD dn e.2.2 = true ∧ e.2.1 ∈ es.map (·.1)) ∧ h.length + budget es dn < m ∧ dn.length + h.length + budget es dn ≤ 19999 ∧ (inD dn here = true → h.length + budget es dn ≤ N) ∧ (inD dn here = false → (pushAll n here (dn ++ [(here, bef)]) (nbrs es here) h).length + budget es (dn ++ [(here, bef)]) ≤ N) ∧ stepRes es q N n here bef h dn = foundOf es p q, rt := fun _ _ => False, bk := fun _ _ => False, ct := fun _ _ => False }) ?_ ?_ (fun _ _ z => z.elim) (fun _ _ z => z.elim) (fun _ _ z => z.elim))
      · rcases hI with ⟨rfl, rfl⟩ | ⟨h, dn, N, rfl, hN, hb, hg, hh, hres, rfl⟩
        · refine sd_asgK (ek_callM cT hr (eka_p (ea_cons (ev_v 4) ea_nil) ⟨ph, 0, [.tup [.int 0, dPr p, .non]], [], .tup [.int 0, dPr p, .non], [], rfl, rfl, ⟨rfl, .inl ⟨0, p, rfl, rfl, rfl⟩⟩, ?_⟩)) (eg_t (egs_cons (eg_n 6 sc_found_way.nd) (egs_cons (eg_n 7 sc_found_way.nd) (egs_cons (eg_n 8 sc_found_way.nd) egs_nil))))
          refine ⟨[some (.reg (dForm f) o), some (dPr p), some (dPr q), some (dTab es), some (.ref ph), some (.ref pd), some (.int 0), some (dPr p), some .non, none, none], rfl, 0, p, none, [], [], (pushAll 0 p ([] ++ [(p, none)]) (nbrs es p) []).length + budget es ([] ++ [(p, none)]), rfl, rfl, ⟨List.nodup_nil, fun pre kv post e => by cases pre <;> cases e⟩, fun b z => (by cases z), hst, fun e z => (by cases z), ?_, ?_, fun z => (by cases z), fun _ => Nat.le_refl _, ?_⟩
          · have := budget_le es []
            simp only [List.length_nil]
            omega
          · have := budget_le es []
            simp only [List.length_nil]
            omega
          · unfold stepRes foundOf
            rw [if_neg (show ¬ inD [] p = true by exact Bool.false_ne_true)]
            by_cases hpq : p = q
            · rw [if_pos hpq]
              dsimp only
              rw [if_pos hpq]
              rfl
            · rw [if_neg hpq]
              dsimp only
              rw [if_neg hpq]
              rfl
        · cases h with
          | nil => exact absurd ⟨dn, N, rfl, hres⟩ hne
          | cons e r =>
            rw [List.length_cons] at hN hb
            cases N with
            | zero => omega
            | succ N =>
              have htl := takeIn_len e r
              refine sd_asgK (ek_callM cT hr (eka_p (ea_cons (ev_v 4) ea_nil) ⟨ph, 0, (e :: r).map dE, [], dE e, (takeIn ltE (e :: r)).map dE, rfl, rfl, ⟨rfl, .inr ⟨e, r, by omega, rfl, rfl, rfl⟩⟩, ?_⟩)) (eg_t (egs_cons (eg_n 6 sc_found_way.nd) (egs_cons (eg_n 7 sc_found_way.nd) (egs_cons (eg_n 8 sc_found_way.nd) egs_nil))))
              obtain ⟨he1, he2⟩ := hh e List.mem_cons_self
              refine ⟨[some (.reg (dForm f) o), some (dPr p), some (dPr q), some (dTab es), some (.ref ph), some (.ref pd), some (.int e.1), some (dPr e.2.1), some (dPr e.2.2), none, none], rfl, e.1, e.2.1, some e.2.2, takeIn ltE (e :: r), dn, N, rfl, rfl, hg, fun b z => (by cases z; exact he1), he2, fun x hx => hh x (List.mem_cons_of_mem _ (mem_takeIn ltE hx)), ?_, ?_, fun z => ?_, fun z => ?_, ?_⟩
              · rw [htl, List.length_cons]; omega
              · rw [htl]; omega
              · rw [htl]; omega
              · have h1 := pushAll_len e.1 e.2.1 (dn ++ [(e.2.1, some e.2.2)]) (nbrs es e.2.1) (takeIn ltE (e :: r))
                have h2 := budget_snoc (es := es) (b := some e.2.2) z
                rw [htl] at h1
                omega
              · rw [← hres]
                rfl
      rintro ρ1 M1 ⟨n, here, bef, h, dn, N, rfl, rfl, hg, hbef, hkey, hh, hm, hb, hN1, hN2, hres⟩
      clear hne hI
      refine sds_cons (sd_if (k := inD dn here) (et_view 1 5 (d0 := dD dOP dn) (EvT.cast' (et_inD hr (ev_v 7) (ev_v 5)) (gt_inTab dn here))) (fun hin => ?_) fun hin => sds_nil ?_)
      · refine sds_cons (sd_cont ⟨h.length + budget es dn, [some (.reg (dForm f) o), some (dPr p), some (dPr q), some (dTab es), some (.ref ph), some (.ref pd), none, none, none, none, none], hm, by repeat (first | exact Le.nil | apply Le.some | apply Le.none), rfl, .inr ⟨h, dn, N, rfl, hN1 hin, by omega, hg, hh, ?_, rfl⟩⟩)
        rw [← hres]
        unfold stepRes
        rw [if_pos hin]
      have hN2 := hN2 hin
      have hpl := pushAll_len n here (dn ++ [(here, bef)]) (nbrs es here) h
      have hbs := budget_snoc (es := es) (b := bef) hin
      refine sds_cons (sd_putD 1 (enc := dOP) (b := bef) (es := dn) hr (ev_v 5) (ev_v 7) (ev_v 8) rfl (by omega) ?_)
      rw [pt_snoc hin]
      show SDs _ _ _ [some (.reg (dForm f) o), some (dPr p), some (dPr q), some (dTab es), some (.ref ph), some (.ref pd), some (.int n), some (dPr here), some (dOP bef), none, none] [(ph, Dt.lst (h.map dE)), (pd, dD dOP (dn ++ [(here, bef)]))] _
      have hg' := hg.snoc hin hbef
      have hmo : ∀ x, inD dn x = true → inD (dn ++ [(here, bef)]) x = true := fun x hx => by rw [inD_snoc, hx]; rfl
      have hin2 : inD (dn ++ [(here, bef)]) here = true := by rw [inD_snoc, decide_eq_true rfl, Bool.or_true]
      have hl2 : (dn ++ [(here, bef)]).length = dn.length + 1 := by rw [List.length_append]; rfl
      unfold stepRes at hres
      rw [if_neg (by rw [hin]; exact Bool.false_ne_true)] at hres
      generalize hd2 : dn ++ [(here, bef)] = dn2 at *
      refine sds_cons (sd_if (et_eqX (x := here) (y := q) cpr_pr hr (ev_v 7) (ev_v 2)) (fun hq => ?_) fun hq => sds_nil ?_)
      · have hq : here = q := of_decide_eq_true hq
        rw [if_pos hq] at hres
        rw [← hres]
        refine sds_cons (sd_setN 9 (en_lst (ea_cons (ev_v 2) ea_nil)) (fun ps => ?_) sc_found_way.nd)
        show SDs _ _ _ [some (.reg (dForm f) o), some (dPr p), some (dPr q), some (dTab es), some (.ref ph), some (.ref pd), some (.int n), some (dPr here), some (dOP bef), some (.ref ps), none] [(ph, Dt.lst (h.map dE)), (pd, dD dOP dn2), (ps, Dt.lst (([] ++ [q] : List Pr).map dPr))] _
        refine sds_cons (sd_while (fun m ρ1 M1 => ∃ (sq : List Pr) (c : Pr) (pre post : Dn) (b : Option Pr) (k : Nat), dn2 = pre ++ (c, b) :: post ∧ c ∉ pre.map (·.1) ∧ m = pre.length ∧ pre.length ≤ k ∧ sq ++ chain dn2 k c = chain dn2 dn2.length q ∧ sq.length + pre.length ≤ 30000 ∧ ρ1 = [some (.reg (dForm f) o), some (dPr p), some (dPr q), some (dTab es), some (.ref ph), some (.ref pd), some (.int n), some (dPr here), some (dOP bef), some (.ref ps), none] ∧ M1 = [(ph, Dt.lst (h.map dE)), (pd, dD dOP dn2), (ps, Dt.lst ((sq ++ [c]).map dPr))]) (dn2.length - 1) ?_ ?_)
        · refine ⟨[], q, dn, [], bef, dn2.length, by rw [← hd2, hq], fun z => ?_, by omega, by omega, rfl, ?_, rfl, rfl⟩
          · rw [← hq, ← inD_iff, hin] at z
            cases z
          · rw [List.length_nil]
            omega
        rintro m ρ1 M1 ⟨sq, c, pre, post, b, k, hdn, hc, rfl, hk, hch, hsl, rfl, rfl⟩
        have hlast : atI ((sq ++ [c]).map dPr) (-1) = some (dPr c) := atI_last (by rw [List.getLast?_append]; rfl)
        have hgt : gt dn2 c = some b := by rw [hdn]; exact gt_at hc
        refine ⟨!isNon (dOP b), et_view 2 9 (d0 := .lst ((sq ++ [c]).map dPr)) (et_view 1 5 (d0 := dD dOP dn2) (et_notN (ev_getD (enc := dOP) hr (ev_v 5) (ev_ixL (ev_v 9) (ev_neg ev_int) hlast) hgt))), fun hb => ?_, fun hb => ?_⟩
        · cases b with
          | none => cases hb
          | some b =>
            refine sds_cons (sd_app 2 (d := dPr b) (ev_v 9) (ev_view 2 9 (d0 := .lst ((sq ++ [c]).map dPr)) (ev_view 1 5 (d0 := dD dOP dn2) (ev_getD (enc := dOP) (b := some b) hr (ev_v 5) (ev_ixL (ev_v 9) (ev_neg ev_int) hlast) hgt))) rfl (by rw [List.length_map, List.length_append, List.length_singleton]; omega) (sds_nil ?_))
            obtain ⟨pre', b', post', e', hb', hlt⟩ := hg'.bef hdn
            cases k with
            | zero => omega
            | succ k =>
              refine ⟨pre'.length, [some (.reg (dForm f) o), some (dPr p), some (dPr q), some (dTab es), some (.ref ph), some (.ref pd), some (.int n), some (dPr here), some (dOP bef), some (.ref ps), none], hlt, .refl, sq ++ [c], b, pre', post', b', k, e', hb', rfl, by omega, ?_, ?_, rfl, ?_⟩
              · rw [← hch, List.append_assoc]
                congr 1
                rw [chain, show befOf dn2 c = some b by rw [hdn]; exact befOf_at hc]
                rfl
              · rw [List.length_append, List.length_singleton]; omega
              · simp only [List.map_append]
                rfl
        · cases b with
          | some b => cases hb
          | none =>
            refine sds_freeze 2 9 ?_
            refine sds_cons (sd_ret (d := dFound (some (n, dn2)) q) (Ev.cast (ev_tup (ea_cons (ev_v 6) (ea_cons (ev_new (en_rev (ev_v 9))) ea_nil))) ?_) rfl)
            have e9 : chain dn2 k c = [c] := by
              cases k with
              | zero => rfl
              | succ k => rw [chain, show befOf dn2 c = none by rw [hdn]; exact befOf_at hc]
            show _ = Dt.tup [.int n, .lst ((chain dn2 dn2.length q).reverse.map dPr)]
            rw [← hch, e9, List.map_reverse]
      · have hq : ¬ here = q := of_decide_eq_false hq
        rw [if_neg hq] at hres
        refine sds_cons (sd_forX (xs := nbrs es here) (enc := dPr) (ei_lst (ev_getD (enc := fun l : List Pr => Dt.lst (l.map dPr)) hr (ev_v 3) (ev_v 7) (gt_nbrs hkey))) (eg_n 10 sc_found_way.nd) (fun pre ρ1 M1 => ρ1 = [some (.reg (dForm f) o), some (dPr p), some (dPr q), some (dTab es), some (.ref ph), some (.ref pd), some (.int n), some (dPr here), some (dOP bef), none, none] ∧ M1 = [(ph, Dt.lst ((pushAll n here dn2 pre h).map dE)), (pd, dD dOP dn2)]) ⟨rfl, rfl⟩ ?_ ?_)
        · rintro pre t post ρ1 M1 e ⟨rfl, rfl⟩
          have hst : pushAll n here dn2 (pre ++ [t]) h = if inD dn2 t = true then pushAll n here dn2 pre h else putIn ltE (pushAll n here dn2 pre h) (n + steps here t, t, here) := by
            unfold pushAll
            rw [List.foldl_append]
            rfl
          have hpl2 := pushAll_len n here dn2 pre h
          have hpl3 : pre.length ≤ (nbrs es here).length := by rw [e, List.length_append]; omega
          refine ⟨[some (.reg (dForm f) o), some (dPr p), some (dPr q), some (dTab es), some (.ref ph), some (.ref pd), some (.int n), some (dPr here), some (dOP bef), none, some (dPr t)], rfl, sds_cons (sd_if (k := !inD dn2 t) (et_view 1 5 (d0 := dD dOP dn2) (EvT.cast' (et_notinD hr (ev_v 10) (ev_v 5)) (by rw [gt_inTab]; rfl))) (fun hn => ?_) fun hn => sds_nil (sds_nil ⟨[some (.reg (dForm f) o), some (dPr p), some (dPr q), some (dTab es), some (.ref ph), some (.ref pd), some (.int n), some (dPr here), some (dOP bef), none, none], by repeat (first | exact Le.nil | apply Le.some | apply Le.none), rfl, ?_⟩))⟩
          · have hn : inD dn2 t = false := by simpa using hn
            refine sds_cons (sd_exprK (ek_callM cP hr (eka_p (ea_cons (ev_v 4) (ea_cons (ev_tup (ea_cons (ev_add (ev_v 6) (ev_call cS hr (ea_cons (ev_v 7) (ea_cons (ev_v 10) ea_nil)) ⟨here, t, rfl, rfl⟩)) (ea_cons (ev_v 10) (ea_cons (ev_v 7) ea_nil)))) ea_nil)) ⟨ph, 0, (pushAll n here dn2 pre h).map dE, [dE (n + steps here t, t, here)], .non, (putIn ltE (pushAll n here dn2 pre h) (n + steps here t, t, here)).map dE, rfl, rfl, ⟨pushAll n here dn2 pre h, (n + steps here t, t, here), by omega, rfl, rfl, rfl, rfl⟩, ?_⟩)))
            refine sds_nil (sds_nil ⟨[some (.reg (dForm f) o), some (dPr p), some (dPr q), some (dTab es), some (.ref ph), some (.ref pd), some (.int n), some (dPr here), some (dOP bef), none, none], by repeat (first | exact Le.nil | apply Le.some | apply Le.none), rfl, ?_⟩)
            rw [hst, if_neg (by rw [hn]; exact Bool.false_ne_true)]
            rfl
          · have hn : inD dn2 t = true := by simpa using hn
            rw [hst, if_pos hn]
        · rintro ρ1 M1 ⟨rfl, rfl⟩
          refine sds_nil ⟨(pushAll n here dn2 (nbrs es here) h).length + budget es dn2, [some (.reg (dForm f) o), some (dPr p), some (dPr q), some (dTab es), some (.ref ph), some (.ref pd), none, none, none, none, none], by omega, by repeat (first | exact Le.nil | apply Le.some | apply Le.none), rfl, .inr ⟨_, dn2, N, rfl, hN2, by omega, hg', ?_, hres, rfl⟩⟩
          have hh2 : ∀ e ∈ h, inD dn2 e.2.2 = true ∧ e.2.1 ∈ es.map (·.1) := fun e he => ⟨hmo _ (hh e he).1, (hh e he).2⟩
          have hts : ∀ t ∈ nbrs es here, t ∈ es.map (·.1) := fun t ht => by
            obtain ⟨kv, h1, h2⟩ := nbrs_mem ht
            exact hcl kv h1 t h2
          have go : ∀ (ts : List Pr) (h : List E3), (∀ t ∈ ts, t ∈ es.map (·.1)) → (∀ e ∈ h, inD dn2 e.2.2 = true ∧ e.2.1 ∈ es.map (·.1)) → ∀ e ∈ pushAll n here dn2 ts h, inD dn2 e.2.2 = true ∧ e.2.1 ∈ es.map (·.1) := by
            intro ts
            induction ts with
            | nil => intro h _ hh e he; exact hh e he
            | cons t ts ih =>
              intro h ht hh
              unfold pushAll
              rw [List.foldl_cons]
              refine ih _ (fun x hx => ht x (List.mem_cons_of_mem _ hx)) fun e he => ?_
              split at he
              · exact hh e he
              · rcases mem_putIn ltE he with rfl | he
                · exact ⟨hin2, ht t List.mem_cons_self⟩
                · exact hh e he
          exact go _ _ hts hh2
end
end BR
/-! BrX6: way_length; the law's small defs. -/
namespace BR
open PySem PySem.Spec PyProof.Rows L2
def dOI : Option Int → Dt
  | none => .non
  | some n => .int n
section
variable {P : Program} {w : World} {K : PySem.W.Frag} {mg : Str → Option Value} {base : Heap} {C : Addr}
structure WayOk (f : Form) (o : Bool) (p q : Pr) : Prop where
  sp : ∀ n, (spansAt f n).length ≤ 1000
  hp : hasSq f o p = true
  hq : hasSq f o q = true
  fo : FoundOk f o p q
def rWay : List Dt → Dt → Prop := fun ds d => ∃ (f : Form) (o : Bool) (p q : Pr), WayOk f o p q ∧ ds = [.reg (dForm f) o, dPr p, dPr q] ∧ d = dOI (wayLen f o p q)
theorem c_way_length {f : Addr} {fd : FuncData} (F : Fun K "way_length" "way_length" s_way_length f fd) (hm : mg "way_length" = some (.ref f)) (cE : CalD P w K mg base C 6 "check_ends" rEnds) (cF : CalD P w K mg base C 5 "found_way" rFound) : CalD P w K mg base C 7 "way_length" rWay :=
  calD F sc_way_length hm (fun _ _ _ _ _ _ us hl => match us, hl with | [_, _, _], _ => rfl) (by rintro ds d ⟨f, o, p, q, _, rfl, _⟩; rfl) fun cdv A outer s H E ds d hr h => by
    obtain ⟨f, o, p, q, ok, rfl, rfl⟩ := h
    refine sds_cons (sd_expr (ev_call cE hr (ea_cons (ev_v 0) (ea_cons (ev_v 1) (ea_cons (ev_v 2) ea_nil))) ⟨f, o, p, q, ok.sp, ok.hp, ok.hq, rfl, rfl⟩) ?_)
    refine sds_cons (sd_set 3 (ev_call cF hr (ea_cons (ev_v 0) (ea_cons (ev_v 1) (ea_cons (ev_v 2) ea_nil))) ⟨f, o, p, q, ok.fo, rfl, rfl⟩) ?_ sc_way_length.nd)
    unfold wayLen
    cases foundOf (linksOf (nearForm f o p q) p q) p q with
    | none => exact sds_cons (sd_ret (ev_if (et_isN (d := .non) (ev_v 3)) (fun _ => ev_non) fun h => (by cases h)) rfl)
    | some r => exact sds_cons (sd_ret (ev_if (et_isN (d := .tup [.int r.1, .lst ((chain r.2 r.2.length q).reverse.map dPr)]) (ev_v 3)) (fun h => (by cases h)) fun _ => ev_ixT (ev_v 3) ev_int) rfl)
end
end BR
/-! BrX7: callees that answer a new list; the law's pool. -/
namespace BR
open PySem PySem.Spec PyProof.Rows L2
def spN (C : Addr) (R : List Dt → List Dt → Prop) : Sp := fun vs H Q _ => ∃ F ds es, Same F H ∧ RpAll C F vs ds ∧ R ds es ∧ ∀ p xs F' H', H p = none → Ext F H F' H' → F' p = none → H' p = some (.lst xs) → RpAll C F' xs es → Q (.ref p) H'
structure CalN (P : Program) (w : World) (K : PySem.W.Frag) (mg : Str → Option Value) (base : Heap) (C : Addr) (k : Nat) (x : Str) (R : List Dt → List Dt → Prop) : Prop where
  ex : ∃ (f : Addr) (fd : FuncData) (ps : List Str), FnOk P w K mg base CX0 k f fd ps (spN C R) ∧ mg x = some (.ref f) ∧ PySem.W.keepIn K (.ref f) = true ∧ Binds K fd ps []
theorem calN {P : Program} {w : World} {K : PySem.W.Frag} {mg : Str → Option Value} {base : Heap} {C : Addr} {k : Nat} {x : Str} {st : Stmt} {f : Addr} {fd : FuncData} {N ps : List Str} {R : List Dt → List Dt → Prop} (F : Fun K x x st f fd) (S : FnScope N ps (defScope st)) (hm : mg x = some (.ref f))
    (hb : ∀ (kV doc pm : Value) (an : Option Addr) (cdv ct : Value) (us : List Value), us.length = ps.length → bindArgs (PySem.W.fnOf x x (defArgs st) (defBody st) (defScope st) .none kV doc pm an cdv ct) ⟨us, []⟩ = pure (ps.zip us))
    (hl : ∀ ds d, R ds d → ds.length = ps.length)
    (body : ∀ (cdv : Value) (A : Around) (outer : List Env) (s : Shared) (H : Hp) (E : XK) (ds es : List Dt), Room k (A.deeper (envOfC x (defScope st) s.heap.objs.size f cdv)) → R ds es →
      SDs (cxOf CX0 P w K mg base N x (defScope st) f cdv A outer s H E).nox C (defBody st) (en0 N ds) [] { nx := fun _ _ => False, rt := fun d' M' => ∃ (p : Addr) (n : Nat), d' = Dt.ref p ∧ M'[n]? = some (p, Dt.lst es) }) : CalN P w K mg base C (k + 1) x R := by
  refine ⟨f, fd, ps, F.ok S (fun vs H Q E ⟨F, ds, es, _, r, h, _⟩ => by rw [r.length]; exact hl ds es h) fun cdv A outer s H vs Q E hr ⟨Fc, ds, es, e, r, h, q⟩ => ?_, hm, F.kp, F.binds hb⟩
  refine ⟨_, body cdv A outer s H E ds es hr h, Fc, H, Fc, ⟨.refl e, fun i p d hi => nomatch hi⟩, ⟨e, ?_, fun i d hi => en0_sl r hi, ⟨fun i p d hi => (nomatch hi), List.nodup_nil⟩⟩, ?_⟩
  · unfold L2.start en0
    rw [List.length_append, List.length_append, List.length_map, List.length_map, List.length_replicate, List.length_replicate, r.length]
  · refine ⟨fun ρ M σ F1 H1 hd b I => hd.elim, fun _ _ _ _ _ z => z.elim, fun _ _ _ _ _ z => z.elim, fun v d' M F1 H1 ⟨p, n, hd, hn⟩ b m r' => ?_⟩
    subst hd
    rw [r'.inj_ref]
    obtain ⟨f1, h1, hh, xs, rfl, rx⟩ := m.m n p _ hn
    exact q p xs F1 H1 (b.n n p _ hn) b.x f1 hh rx
section
variable {X : Cx} {C : Addr} {ρ : DE} {M : Mem} {e : Expr} {es : List Expr} {d : Dt} {ds ds' : List Dt} {p pos : Pos} {x : Str}
theorem en_call {k j : Nat} {R : List Dt → List Dt → Prop} (c : CalN X.prog X.w X.K X.mg X.base C k x R) (hr : Room j X.A) (ha : EvA X C ρ M (e :: es) ds) (h : R ds ds') (hk : k ≤ j := by first | assumption | decide) (hg : Gl X x := by rfl)
    (hdb : (x == ("__debug__" : Str)) = false := by decide) (he : starEach (e :: es) X.env = (false, eval e X.env) :: starEach es X.env := by rfl) (hpl : ((backTo pos (starEach es X.env)).any fun x => x.1) = false := by rfl) : EvN X C ρ M (.Call (.Name x p) (e :: es) [] pos) ds' := by
  obtain ⟨f, fd, ps, F, hm, kp, b⟩ := c.ex
  exact PE.imp (pe_call F (hr.mono hk) hg hm kp b .nil pass0 ha hdb he hpl) fun σ H Q ⟨F, I, q⟩ => ⟨F, I, fun vs F1 H1 e1 r1 => by
    show spN C R (vs ++ []) H1 Q E0
    rw [List.append_nil]
    exact ⟨F1, ds, ds', e1.fh, r1, h, fun p xs F2 H2 hp e2 hf hH r2 => q p xs F2 H2 (e1.free hp) (e1.trans e2) hf hH r2⟩⟩
theorem cd_intB {k : Bool} : CD C (fun xs H Q => (∃ i, xs = [.int i] ∧ Q (.int i) H) ∨ ∃ k, xs = [.bl k] ∧ Q (.int (if k then 1 else 0)) H) [.bl k] (.int (if k then 1 else 0)) := fun xs F H Q e r q => by
  obtain ⟨v, rfl, rv⟩ := r.one
  rw [rv.inj_bl]
  exact .inr ⟨k, rfl, q _ F H (.refl e) (.int _)⟩
end
section
variable {P : Program} {w : World} {K : PySem.W.Frag} {mg : Str → Option Value} {base : Heap} {C : Addr}
theorem SqL.to {K : PySem.W.Frag} {H H' : Hp} {a : Addr} {xs : List V} (h : SqL K H a xs) (e : Same H H') : SqL K H' a xs := h.elim (fun z => .inl (z.elim (fun z => .inl (e _ _ z)) fun ⟨o, z⟩ => .inr ⟨o, e _ _ z⟩)) .inr
theorem od_ixS {K : PySem.W.Frag} {C : Addr} {ns : List Int} {k : Nat} {x : Int} (h : ns[k]? = some x) : OD C (rIxL K) (.scr K ns) (.int (k : Nat)) (.int x) := fun u y F H Q e r1 r2 q => by
  obtain ⟨p, rfl, hq⟩ := r1.inj_scr
  rw [r2.inj_int]
  refine ⟨p, _, _, .int x, rfl, rfl, SqL.to hq e, ?_, q _ F H (.refl e) (.int _)⟩
  have hk := (List.getElem?_eq_some_iff.mp h).1
  unfold atI ixN
  rw [List.length_map, if_pos (by omega), if_pos (by omega), Int.toNat_natCast]
  show (ns.map V.int)[k]? = _
  rw [List.getElem?_map, h]
  rfl
theorem ev_ixS {X : Cx} {C : Addr} {ρ : DE} {M : Mem} {a b : Expr} {pos : Pos} {ns : List Int} {k : Nat} {x : Int} (ha : Ev X C ρ M a (.scr X.K ns)) (hb : Ev X C ρ M b (.int (k : Nat))) (h : ns[k]? = some x) (hs : PlainIx b := by intro _ _; rfl) : Ev X C ρ M (.Subscript a b pos) (.int x) := PE.imp (pe_ix ix_list ha hb hs) fun _ _ _ z => tOp_of (od_ixS h) z
theorem cd_lenS {K : PySem.W.Frag} {C : Addr} {ns : List Int} : CD C (fun xs H Q => ∃ p ys, xs = [.ref p] ∧ (SqL K H p ys ∨ SqT K H p ys) ∧ Q (.int ys.length) H) [.scr K ns] (.int ns.length) := fun xs F H Q e r q => by
  obtain ⟨v, rfl, r1⟩ := r.one
  obtain ⟨p, rfl, hq⟩ := r1.inj_scr
  refine ⟨p, _, rfl, .inl (SqL.to hq e), ?_⟩
  rw [List.length_map]
  exact q _ F H (.refl e) (.int _)
def dPool (p : Pool) : List Dt := [.int p.1, .int p.2]
def rPool (K : PySem.W.Frag) : List Dt → List Dt → Prop := fun ds es => ∃ (ns : List Int) (k : Nat), k ≤ 10 ∧ ds = [.scr K ns, .int k] ∧ es = dPool (poolOf ns k)
theorem b01 (b : Bool) : -(2 ^ 64 : Int) < (if b = true then 1 else 0) ∧ (if b = true then (1 : Int) else 0) < 2 ^ 64 := by cases b <;> decide
theorem c_law_pool {f : Addr} {fd : FuncData} (F : Fun K "_law_pool" "_law_pool" s_law_pool f fd) (hm : mg "_law_pool" = some (.ref f)) (B : NB mg) : CalN P w K mg base C 1 "_law_pool" (rPool K) :=
  calN F sc_law_pool hm (fun _ _ _ _ _ _ us hl => match us, hl with | [_, _], _ => rfl) (by rintro ds d ⟨ns, k, _, rfl, _⟩; rfl) fun cdv A outer s H E ds es hr h => by
    obtain ⟨ns, k, hk, rfl, rfl⟩ := h
    refine sds_cons (sd_set 2 ev_int ?_ sc_law_pool.nd)
    refine sds_cons (SD.mono (P' := { nx := fun ρ' M' => ρ' = [some (.scr K ns), some (.int (k : Nat)), some (.int (cellOf ns k)), none, none] ∧ M' = [], rt := fun _ _ => False, bk := fun _ _ => False, ct := fun _ _ => False }) ?_ ?_ (fun _ _ z => z.elim) (fun _ _ z => z.elim) (fun _ _ z => z.elim))
    · refine sd_if (et_lt (ev_v 1) (ev_callB call_len_seq cd_lenS (ea_cons (ev_v 0) ea_nil) (B.h _ (by decide)))) (fun h => ?_) fun h => sds_nil ⟨?_, rfl⟩
      · have h := of_decide_eq_true h
        have hx : ns[k]? = some (ns[k]'(by omega)) := List.getElem?_eq_getElem _
        generalize ns[k]'(by omega) = x at hx
        refine sds_cons (sd_set 2 (ev_ixS (ev_v 0) (ev_v 1) hx) (sds_nil ⟨?_, rfl⟩) sc_law_pool.nd)
        unfold cellOf
        rw [hx]
        rfl
      · have h := of_decide_eq_false h
        unfold cellOf
        rw [List.getElem?_eq_none (by omega)]
        rfl
    rintro ρ1 M1 ⟨rfl, rfl⟩
    refine sds_cons (sd_set 3 (ev_callB call_abs cd_abs (ea_cons (ev_v 2) ea_nil) (B.h _ (by decide))) ?_ sc_law_pool.nd)
    have ck : CMul (7919 * (k : Int)) (k : Int) := .inr ⟨by omega, by omega⟩
    refine sds_cons (sd_set 4 (ev_mod (ev_mulS (ev_add (ev_add (ev_mod (ev_v 3) ev_int (by decide)) (ev_mulS (ev_mulS ev_int (ev_v 1) (.inl ⟨by decide, by decide⟩)) (ev_v 1) ck)) ev_int) ev_int (.inr ⟨by decide, by decide⟩)) ev_int (by decide)) ?_ sc_law_pool.nd)
    refine sds_cons (sd_retK (ek_n (en_lst (ea_cons (ev_mulS (ev_v 3) (ev_callTy call_int1 cd_intB (ea_cons (ev_ge (ev_v 3) (ev_pow ev_int ev_int ⟨by decide, by decide, by decide⟩)) ea_nil) (B.h _ (by decide))) (.inr ?_)) (ea_cons (ev_v 4) ea_nil))) fun p => ⟨p, 0, rfl, ?_⟩))
    · exact b01 _
    · have e18 : (10 : Int) ^ Int.toNat 18 = 1000000000000000000 := by decide
      show some (p, Dt.lst [.int (absZ (cellOf ns k) * if decide ((10 : Int) ^ Int.toNat 18 ≤ absZ (cellOf ns k)) = true then 1 else 0), _]) = some (p, Dt.lst (dPool (poolOf ns k)))
      rw [e18]
      unfold dPool poolOf
      simp only [decide_eq_true_eq]
      rfl
def rTakeP : List Dt → List Dt → Dt → List Dt → Prop := fun ds es d ds' => ∃ (p : Pool) (m : Int), PoolOk p ∧ 0 < m ∧ m < 1073741824 ∧ ds = dPool p ∧ es = [.int m] ∧ d = .int (takeV p m) ∧ ds' = dPool (takeS p m)
theorem c_law_take {f : Addr} {fd : FuncData} (F : Fun K "_law_take" "_law_take" s_law_take f fd) (hm : mg "_law_take" = some (.ref f)) : CalM P w K mg base C 1 "_law_take" rTakeP :=
  calM F sc_law_take hm (fun _ _ _ _ _ _ us hl => match us, hl with | [_, _], _ => rfl) (by rintro ds es d ds' ⟨p, m, _, _, _, _, rfl, _⟩; rfl) fun cdv A outer s H E q ds es d ds' hr h => by
    obtain ⟨⟨a, b⟩, m, ok, h0, h1, rfl, rfl, rfl, rfl⟩ := h
    obtain ⟨oa, ob, oc⟩ := ok
    dsimp only at oa ob oc
    refine sds_cons (sd_if (et_view 0 0 (d0 := .lst (dPool (a, b))) (et_gt (ev_ixL (ev_v 0) ev_int rfl) ev_int)) (fun h => ?_) fun h => sds_nil ?_)
    · have h : 0 < a := of_decide_eq_true h
      refine sds_cons (sd_set 2 (ev_mod (ev_view 0 0 (d0 := .lst (dPool (a, b))) (ev_ixL (ev_v 0) ev_int rfl)) (ev_v 1) h0) ?_ sc_law_take.nd)
      refine sds_cons (sd_setL 0 (k := 0) (j := 0) (ev_v 0) ev_int (ev_fdiv (ev_view 0 0 (d0 := .lst (dPool (a, b))) (ev_ixL (ev_v 0) ev_int rfl)) (ev_v 1) ⟨h0, h1⟩) rfl rfl ?_)
      refine sds_cons (sd_ret (ev_v 2) ⟨?_, 0, ?_⟩)
      · unfold takeV
        rw [if_pos h]
      · unfold takeS
        rw [if_pos h]
        rfl
    · have h : ¬ 0 < a := of_decide_eq_false h
      refine sds_cons (sd_setL 0 (k := 1) (j := 1) (ev_v 0) ev_int (ev_mod (ev_add (ev_mulS (ev_view 0 0 (d0 := .lst (dPool (a, b))) (ev_ixL (ev_v 0) ev_int rfl)) ev_int (.inr ⟨by decide, by decide⟩)) ev_int) ev_int (by decide)) rfl rfl ?_)
      have n0 : 0 ≤ (b * 48271 + 11) % 2147483647 := Int.emod_nonneg _ (by decide)
      have n1 : (b * 48271 + 11) % 2147483647 < 2147483647 := Int.emod_lt_of_pos _ (by decide)
      show SDs _ _ _ _ [(q, Dt.lst [.int a, .int ((b * 48271 + 11) % 2147483647)])] _
      unfold takeV takeS
      rw [if_neg h, if_neg h]
      dsimp only
      generalize (b * 48271 + 11) % 2147483647 = c at n0 n1
      have rd : ∀ {ρ : DE}, True := fun {_} => trivial
      refine sds_cons (sd_ret (ev_mod (ev_fdiv (ev_mod (ev_mulS (ev_view 0 0 (d0 := .lst [.int a, .int c]) (ev_ixL (ev_v 0) ev_int rfl)) (ev_view 0 0 (d0 := .lst [.int a, .int c]) (ev_ixL (ev_v 0) ev_int rfl)) (.inl ⟨by omega, by omega⟩)) ev_int (by decide)) ev_int ⟨by decide, by decide⟩) (ev_v 1) h0) ⟨rfl, 0, rfl⟩)
end
end BR
/-! BrX8: for over range(a), a changing things; the law's cells and lines. -/
namespace BR
open PySem PySem.Spec PyProof.Rows L2
section
variable {X : Cx} {C : Addr} {ρ : DE} {M M0 : Mem} {P : Po} {tg e a : Expr} {ds : List Dt} {pos : Pos}
def tRIM (C : Addr) (ρ : DE) (M : Mem) (ds : List Dt) (M0 : Mem) : TI := fun σ H R => ∃ Fb Hb F, Bs Fb Hb M F H ∧ En C F ρ M σ H ∧ ∀ J F' H', Same F F' → Bs Fb Hb M0 F' H' → En C F' ρ M0 σ H' → DW C J ds F' → R J H'
def EvIM (X : Cx) (C : Addr) (ρ : DE) (M : Mem) (tg e : Expr) (ds : List Dt) (M0 : Mem) : Prop := PI X tg e (tRIM C ρ M ds M0)
theorem ei_rangeM {n : Nat} {p : Pos} (ha : EvK X C ρ M a fun d M' => d = .int n ∧ M' = M0) (hn : n ≤ 100000) (hm : X.mg "range" = none) (hg : Gl X "range" := by rfl) (hs : starEach [a] X.env = [(false, eval a X.env)] := by rfl) :
    EvIM X C ρ M tg (.Call (.Name "range" p) [a] [] pos) ((List.range n).map fun i : Nat => .int (0 + i)) M0 :=
  PI.imp (pi_range1 hg hm (pa_cons ha pa_nil hs) hs) fun σ H R ⟨Fb, Hb, F, b, I, q⟩ => ⟨Fb, Hb, F, b, I, fun v d M' F1 H1 ⟨e1, e2⟩ s1 b1 I1 r => by
    subst e1 e2
    have := r.inj_int
    subst this
    refine ⟨n, rfl, by omega, by omega, ?_⟩
    rw [Int.toNat_natCast]
    exact q _ F1 H1 s1 b1 I1 dw_range⟩
theorem sd_forM {st : Stor} {sl : List Nat} {body : List Stmt} (hi : EvIM X C ρ M tg e ds M0) (hg : EvG (Xq X) C tg st sl) (I : Nat → DE → Mem → Prop) (h0 : I 0 ρ M0)
    (hb : ∀ i d ρ1 M1, ds[i]? = some d → I i ρ1 M1 → ∃ ρ2, st ρ1 d = some ρ2 ∧ SDs X C body ρ2 M1 { nx := fun ρ' M' => ∃ ρ1, Le ρ1 ρ' ∧ I (i + 1) ρ1 M', ct := fun ρ' M' => ∃ ρ1, Le ρ1 ρ' ∧ I (i + 1) ρ1 M', bk := P.nx, rt := P.rt }) (he : ∀ ρ1 M1, I ds.length ρ1 M1 → P.nx ρ1 M1)
    (hc : X.calm = true := by rfl) (hp : PassesOwn (model X.prog X.w) X.A X.env X.xe := by exact PassesOwn.never) (hs : ∀ x, foldedSetIterable e X.env x = pure x := by intro _; rfl) : SD X C (.For tg e body [] pos) ρ M P := by
  obtain ⟨g, g1, g2⟩ := hg.ex
  refine PS.imp (ps_for hp hc hi (g1 X rfl) (pss_any (C := C)) hs) fun D σ H ⟨Fb, Hb, F, b, In, q⟩ => ⟨Fb, Hb, F, b, In, fun J F0 H0 s0 b0 I0 w => ?_⟩
  have rb := rebase (C := C) b0 I0.m
  have q0 : Post C F0 (hw M0 H0) P D := Post.re b0 q
  refine for_it w (fun i σ H => ∃ ρ1 M1 F1, I i ρ1 M1 ∧ Bs F0 (hw M0 H0) M1 F1 H ∧ En C F1 ρ1 M1 σ H) ⟨ρ, M0, F0, h0, rb, I0⟩ (fun i σ H _ ⟨ρ1, M1, F1, _, b1, I1⟩ => b1.x.f.trans I1.fh) (fun i x σ1 H1 H2 hi ⟨ρ1, M1, F1, w1, b1, I1⟩ ⟨d, hd, hF⟩ => ?_) fun σ H ⟨ρ1, M1, F1, w1, b1, I1⟩ => q0.nx ρ1 M1 σ F1 H (he ρ1 M1 w1) b1 I1
  obtain ⟨F2, e2, r2⟩ := hF F1 b1.x.f I1.fh
  obtain ⟨ρ2, s2, hbd⟩ := hb i d ρ1 M1 hd w1
  refine g2 ρ1 ρ2 M1 d x F2 H2 σ1 _ s2 (I1.ext e2) r2 fun σ2 I2 _ => ⟨ρ2, M1, _, hbd, F0, hw M0 H0, F2, b1.ext e2, I2, ?_⟩
  exact ⟨fun ρ M σ F H ⟨ρ1, l, h⟩ b' I' => ⟨ρ1, M, F, h, b', I'.le l⟩, fun ρ M σ F H h b' I' => q0.nx ρ M σ F H h b' I', fun ρ M σ F H ⟨ρ1, l, h⟩ b' I' => ⟨ρ1, M, F, h, b', I'.le l⟩, q0.rt⟩
/-- over range: I by the number of turns done -/
theorem sd_forRM {n : Nat} {st : Stor} {sl : List Nat} {body : List Stmt} (hi : EvIM X C ρ M tg e ((List.range n).map fun i : Nat => Dt.int (0 + i)) M0) (hg : EvG (Xq X) C tg st sl) (I : Nat → DE → Mem → Prop) (h0 : I 0 ρ M0)
    (hb : ∀ i ρ1 M1, i < n → I i ρ1 M1 → ∃ ρ2, st ρ1 (.int (i : Nat)) = some ρ2 ∧ SDs X C body ρ2 M1 { nx := fun ρ' M' => ∃ ρ1, Le ρ1 ρ' ∧ I (i + 1) ρ1 M', ct := fun ρ' M' => ∃ ρ1, Le ρ1 ρ' ∧ I (i + 1) ρ1 M', bk := P.nx, rt := P.rt }) (he : ∀ ρ1 M1, I n ρ1 M1 → P.nx ρ1 M1)
    (hc : X.calm = true := by rfl) (hp : PassesOwn (model X.prog X.w) X.A X.env X.xe := by exact PassesOwn.never) (hs : ∀ x, foldedSetIterable e X.env x = pure x := by intro _; rfl) : SD X C (.For tg e body [] pos) ρ M P :=
  sd_forM hi hg I h0 (fun i d ρ1 M1 hd hI => by
    rw [List.getElem?_map] at hd
    obtain ⟨j, hj, rfl⟩ := Option.map_eq_some_iff.mp hd
    obtain ⟨h1, h2⟩ := List.getElem?_eq_some_iff.mp hj
    rw [List.length_range] at h1
    rw [List.getElem_range] at h2
    subst h2
    rw [Int.zero_add]
    exact hb i ρ1 M1 h1 hI) (fun ρ1 M1 hI => by rw [List.length_map, List.length_range] at hI; exact he ρ1 M1 hI) hc hp hs
end
section
variable {P : Program} {w : World} {K : PySem.W.Frag} {mg : Str → Option Value} {base : Heap} {C : Addr}
def rCells : List Dt → List Dt → Dt → List Dt → Prop := fun ds es d ds' => ∃ p : Pool, PoolOk p ∧ ds = dPool p ∧ es = [.int 5, .int 5] ∧ d = .lst ((cellsOf p).2.map dPr) ∧ ds' = dPool (cellsOf p).1
def memC (q pf : Addr) (s : Pool × List Pr) : Mem := [(q, .lst (dPool s.1)), (pf, .lst (s.2.map dPr))]
theorem row_ok {many : Int} {x : Nat} {s : Pool × List Pr} (h : PoolOk s.1) : ∀ i : Nat, PoolOk ((List.range i).foldl (cellStep many x) s).1 ∧ ((List.range i).foldl (cellStep many x) s).2.length ≤ s.2.length + i
  | 0 => ⟨h, Nat.le_refl _⟩
  | i + 1 => by
    obtain ⟨h1, h2⟩ := row_ok (many := many) (x := x) h i
    rw [fold_succ]
    generalize (List.range i).foldl (cellStep many x) s = t at h1 h2 ⊢
    refine ⟨takeS_ok h1 (by decide), ?_⟩
    unfold cellStep
    dsimp only
    split
    · rw [List.length_append, List.length_singleton]; omega
    · omega
theorem c_law_cells {f : Addr} {fd : FuncData} (F : Fun K "_law_cells" "_law_cells" s_law_cells f fd) (hm : mg "_law_cells" = some (.ref f)) (B : NB mg) (cT : CalM P w K mg base C 1 "_law_take" rTakeP) : CalM P w K mg base C 2 "_law_cells" rCells :=
  calM F sc_law_cells hm (fun _ _ _ _ _ _ us hl => match us, hl with | [_, _, _], _ => rfl) (by rintro ds es d ds' ⟨p, _, _, rfl, _⟩; rfl) fun cdv A outer s H E q ds es d ds' hr h => by
    obtain ⟨p, ok, rfl, rfl, rfl, rfl⟩ := h
    refine sds_cons (sd_parK 3 4 (eka_cons (ek_op op_add (ek_p ev_int (ek_callM cT hr (eka_p (ea_cons (ev_v 0) (ea_cons ev_int ea_nil)) ⟨q, 0, dPool p, [.int 4], _, _, rfl, rfl, ⟨p, 4, ok, by decide, by decide, rfl, rfl, rfl, rfl⟩, ⟨_, od_I fun _ => .int _, eka_cons (ek_n (en_lst ea_nil) fun pf => eka_nil ⟨_, _, rfl, ?_⟩)⟩⟩))))) sc_law_cells.nd)
    have ok1 := takeS_ok (m := 4) ok (by decide)
    have v1 := takeV_ok (p := takeS p 4) (m := 5) (by decide)
    have ok2 := takeS_ok (m := 5) ok1 (by decide)
    show SDs _ _ _ [some (.ref q), some (.int 5), some (.int 5), some (.int (1 + takeV p 4)), some (.ref pf), none, none] [(q, Dt.lst (dPool (takeS p 4))), (pf, Dt.lst [])] _
    refine sds_cons (sd_forRM (n := (1 + takeV (takeS p 4) 5).toNat) (M0 := memC q pf (takeS (takeS p 4) 5, [])) (ei_rangeM (ek_op op_add (ek_p ev_int (ek_callM cT hr (eka_p (ea_cons (ev_v 0) (ea_cons (ev_v 1) ea_nil)) ⟨q, 0, dPool (takeS p 4), [.int 5], _, _, rfl, rfl, ⟨takeS p 4, 5, ok1, by decide, by decide, rfl, rfl, rfl, rfl⟩, ⟨_, od_I fun _ => .int _, ?_, rfl⟩⟩)))) (by omega) (B.h _ (by decide))) (eg_n 5 sc_law_cells.nd)
      (fun i ρ1 M1 => PoolOk ((List.range i).foldl (rowOf (1 + takeV p 4)) (takeS (takeS p 4) 5, [])).1 ∧ ((List.range i).foldl (rowOf (1 + takeV p 4)) (takeS (takeS p 4) 5, [])).2.length ≤ 5 * i ∧ ρ1 = [some (.ref q), some (.int 5), some (.int 5), some (.int (1 + takeV p 4)), some (.ref pf), none, none] ∧ M1 = memC q pf ((List.range i).foldl (rowOf (1 + takeV p 4)) (takeS (takeS p 4) 5, []))) ⟨ok2, Nat.le_refl _, rfl, rfl⟩ ?_ ?_)
    · rw [Int.toNat_of_nonneg (by omega)]
    · rintro x ρ1 M1 hx ⟨okx, lx, rfl, rfl⟩
      rw [fold_succ]
      generalize (List.range x).foldl (rowOf (1 + takeV p 4)) (takeS (takeS p 4) 5, []) = t at okx lx
      have vt := takeV_ok (p := t.1) (m := 5) (by decide)
      have okt := takeS_ok (m := 5) okx (by decide)
      refine ⟨[some (.ref q), some (.int 5), some (.int 5), some (.int (1 + takeV p 4)), some (.ref pf), some (.int (x : Nat)), none], rfl, ?_⟩
      refine sds_cons (sd_forRM (n := (1 + takeV t.1 5).toNat) (M0 := memC q pf (takeS t.1 5, t.2)) (ei_rangeM (ek_op op_add (ek_p ev_int (ek_callM cT hr (eka_p (ea_cons (ev_v 0) (ea_cons (ev_v 2) ea_nil)) ⟨q, 0, dPool t.1, [.int 5], _, _, rfl, rfl, ⟨t.1, 5, okx, by decide, by decide, rfl, rfl, rfl, rfl⟩, ⟨_, od_I fun _ => .int _, ?_, rfl⟩⟩)))) (by omega) (B.h _ (by decide))) (eg_n 6 sc_law_cells.nd)
        (fun i ρ1 M1 => ρ1 = [some (.ref q), some (.int 5), some (.int 5), some (.int (1 + takeV p 4)), some (.ref pf), some (.int (x : Nat)), none] ∧ M1 = memC q pf ((List.range i).foldl (cellStep (1 + takeV p 4) x) (takeS t.1 5, t.2))) ⟨rfl, rfl⟩ ?_ ?_)
      · rw [Int.toNat_of_nonneg (by omega)]
      · rintro y ρ1 M1 hy ⟨rfl, rfl⟩
        obtain ⟨oky, ly⟩ := row_ok (many := 1 + takeV p 4) (x := x) (s := (takeS t.1 5, t.2)) okt y
        rw [fold_succ]
        generalize (List.range y).foldl (cellStep (1 + takeV p 4) x) (takeS t.1 5, t.2) = z at oky ly
        dsimp only at ly
        refine ⟨[some (.ref q), some (.int 5), some (.int 5), some (.int (1 + takeV p 4)), some (.ref pf), some (.int (x : Nat)), some (.int (y : Nat))], rfl, ?_⟩
        refine sds_cons (sd_ifK (ekt_cmp op_lt (ek_callM cT hr (eka_p (ea_cons (ev_v 0) (ea_cons ev_int ea_nil)) ⟨q, 0, dPool z.1, [.int 5], _, _, rfl, rfl, ⟨z.1, 5, oky, by decide, by decide, rfl, rfl, rfl, rfl⟩, ek_p (ev_v 3) ⟨_, od_I fun _ => .bl _, fun hb => ?_, fun hb => ?_⟩⟩))))
        · have hb := of_decide_eq_true hb
          refine sds_cons (sd_app 1 (ev_v 4) (d := dPr ((x : Int), (y : Int))) (ev_tup (ea_cons (ev_v 5) (ea_cons (ev_v 6) ea_nil))) rfl (by rw [List.length_map]; omega) (sds_nil (sds_nil ⟨[some (.ref q), some (.int 5), some (.int 5), some (.int (1 + takeV p 4)), some (.ref pf), some (.int (x : Nat)), none], by repeat (first | exact Le.nil | apply Le.some | apply Le.none), rfl, ?_⟩)))
          unfold cellStep memC
          rw [if_pos hb, List.map_append]
          rfl
        · have hb := of_decide_eq_false hb
          refine sds_nil (sds_nil ⟨[some (.ref q), some (.int 5), some (.int 5), some (.int (1 + takeV p 4)), some (.ref pf), some (.int (x : Nat)), none], by repeat (first | exact Le.nil | apply Le.some | apply Le.none), rfl, ?_⟩)
          unfold cellStep memC
          rw [if_neg hb]
          rfl
      · rintro ρ1 M1 ⟨rfl, rfl⟩
        obtain ⟨oky, ly⟩ := row_ok (many := 1 + takeV p 4) (x := x) (s := (takeS t.1 5, t.2)) okt (1 + takeV t.1 5).toNat
        dsimp only at ly
        exact sds_nil ⟨[some (.ref q), some (.int 5), some (.int 5), some (.int (1 + takeV p 4)), some (.ref pf), none, none], by repeat (first | exact Le.nil | apply Le.some | apply Le.none), oky, by unfold rowOf; omega, rfl, rfl⟩
    · rintro ρ1 M1 ⟨_, _, rfl, rfl⟩
      refine sds_freeze 1 4 (p := pf) (d0 := .lst ((cellsOf p).2.map dPr)) ?_
      exact sds_cons (sd_ret (ev_v 4) ⟨rfl, 0, rfl⟩)
end
end BR
/-! BrX9: the law's lines. -/
namespace BR
open PySem PySem.Spec PyProof.Rows L2
section
variable {X : Cx} {C : Addr} {ρ : DE} {M : Mem} {es : List Expr} {k : Dt → Mem → Prop} {pos : Pos}
/-- [..], to be changed -/
theorem ek_lstM (h : EvKA X C ρ M es fun ds M' => ds.length ≤ 1000 ∧ ∀ p, k (.ref p) (M' ++ [(p, .lst ds)])) : EvK X C ρ M (.List es pos) k :=
  PE.imp (pe_lst h) fun σ H Q ⟨Fb, Hb, F, b, I, q⟩ => ⟨Fb, Hb, F, b, I, fun vs ds M1 F1 H1 ⟨hl, hk⟩ s1 b1 I1 r1 => ⟨by rw [r1.length]; exact Nat.le_trans hl (by decide), fun p hp => by
    have e2 : Ext F1 H1 F1 (upd H1 p (.lst vs)) := .newH I1.fh hp
    exact q _ _ _ F1 _ (hk p) s1 (push_bs b1 e2 hp) (push_en I1 e2 hp (I1.fh.free hp) upd_same ⟨vs, rfl, r1⟩) (.ref p)⟩⟩
end
section
variable {P : Program} {w : World} {K : PySem.W.Frag} {mg : Str → Option Value} {base : Heap} {C : Addr}
def rLines : List Dt → List Dt → Dt → List Dt → Prop := fun ds es d ds' => ∃ p : Pool, PoolOk p ∧ ds = dPool p ∧ es = [.int 5] ∧ d = .lst ((linesOf p).2.map Dt.int) ∧ ds' = dPool (linesOf p).1
def memL (q pf : Addr) (s : Pool × List Int) : Mem := [(q, .lst (dPool s.1)), (pf, .lst (s.2.map Dt.int))]
theorem at3 {a b c v : Int} (h0 : 0 ≤ v) (h3 : v < 3) : atI [Dt.int a, .int b, .int c] v = some (.int (if v = 0 then a else if v = 1 then b else c)) := by
  have : v = 0 ∨ v = 1 ∨ v = 2 := by omega
  rcases this with rfl | rfl | rfl <;> rfl
theorem c_law_lines {f : Addr} {fd : FuncData} (F : Fun K "_law_lines" "_law_lines" s_law_lines f fd) (hm : mg "_law_lines" = some (.ref f)) (B : NB mg) (cT : CalM P w K mg base C 1 "_law_take" rTakeP) : CalM P w K mg base C 2 "_law_lines" rLines :=
  calM F sc_law_lines hm (fun _ _ _ _ _ _ us hl => match us, hl with | [_, _], _ => rfl) (by rintro ds es d ds' ⟨p, _, _, rfl, _⟩; rfl) fun cdv A outer s H E q ds es d ds' hr h => by
    obtain ⟨p, ok, rfl, rfl, rfl, rfl⟩ := h
    have v0 := takeV_ok (p := p) (m := 3) (by decide)
    have e29 : (-(10 ^ Int.toNat 29) : Int) = -100000000000000000000000000000 := by decide
    have e6 : ((10 : Int) ^ Int.toNat 6) = 1000000 := by decide
    have e22 : ((10 : Int) ^ Int.toNat 22) = 10000000000000000000000 := by decide
    refine sds_cons (sd_setK 2 (ek_lstM (eka_cons (ek_ixL (i := 0) (ek_p (ev_new (en_lst (ea_cons ev_int (ea_cons (Ev.cast (ev_neg (ev_pow ev_int ev_int ⟨by decide, by decide, by decide⟩)) (congrArg Dt.int e29)) (ea_cons ev_int ea_nil))))) (ek_callM cT hr (eka_p (ea_cons (ev_v 0) (ea_cons ev_int ea_nil)) ⟨q, 0, dPool p, [.int 3], _, _, rfl, rfl, ⟨p, 3, ok, by decide, by decide, rfl, rfl, rfl, rfl⟩, ⟨_, od_ixL (at3 v0.1 v0.2), eka_nil ⟨by simp, fun pf => ?_⟩⟩⟩)))))) sc_law_lines.nd)
    have ok1 := takeS_ok (m := 3) ok (by decide)
    show SDs _ _ _ [some (.ref q), some (.int 5), some (.ref pf), none, none] (memL q pf (takeS p 3, [lineStart (takeV p 3)])) _
    refine sds_cons (sd_forRM (n := 5) (M0 := memL q pf (takeS p 3, [lineStart (takeV p 3)])) (ei_rangeM (ek_p (ev_v 1) ⟨rfl, rfl⟩) (by decide) (B.h _ (by decide))) (eg_n 3 sc_law_lines.nd)
      (fun i ρ1 M1 => ∃ t : Pool × List Int, t = (List.range i).foldl (fun s _ => lineStep s) (takeS p 3, [lineStart (takeV p 3)]) ∧ PoolOk t.1 ∧ t.2 ≠ [] ∧ t.2.length ≤ i + 1 ∧ ρ1 = [some (.ref q), some (.int 5), some (.ref pf), none, none] ∧ M1 = memL q pf t) ⟨_, rfl, ok1, by simp, Nat.le_refl _, rfl, rfl⟩ ?_ ?_)
    · rintro x ρ1 M1 hx ⟨t, ht, okt, hne, hlen, rfl, rfl⟩
      have okA := takeS_ok (m := 3) okt (by decide)
      have okB := takeS_ok (m := 1000000) okA (by decide)
      have okC := takeS_ok (m := 3) okB (by decide)
      have vC := takeV_ok (p := takeS (takeS t.1 3) 1000000) (m := 3) (by decide)
      have vB := takeV_ok (p := takeS t.1 3) (m := 1000000) (by decide)
      refine ⟨[some (.ref q), some (.int 5), some (.ref pf), some (.int (x : Nat)), none], rfl, ?_⟩
      refine sds_cons (sd_setK 4 (ek_ixL (i := 0) (ek_lst (eka_cons (ek_p ev_int (eka_cons ?_))))) sc_law_lines.nd)
      refine ek_op op_add (ek_p ev_int (ek_callM cT hr (eka_p (ea_cons (ev_v 0) (ea_cons ev_int ea_nil)) ⟨q, 0, dPool t.1, [.int 3], _, _, rfl, rfl, ⟨t.1, 3, okt, by decide, by decide, rfl, rfl, rfl, rfl⟩, ⟨_, od_I fun _ => .int _, ?_⟩⟩)))
      refine eka_cons (ek_op op_add (ek_p ev_int ?_))
      refine ek_op op_mul (ek_callM cT hr (eka_p (ea_cons (ev_v 0) (ea_cons (Ev.cast (ev_pow ev_int ev_int ⟨by decide, by decide, by decide⟩) (congrArg Dt.int e6)) ea_nil)) ⟨q, 0, dPool (takeS t.1 3), [.int 1000000], _, _, rfl, rfl, ⟨takeS t.1 3, 1000000, okA, by decide, by decide, rfl, rfl, rfl, rfl⟩, ?_⟩))
      refine ek_p (Ev.cast (ev_pow ev_int ev_int ⟨by decide, by decide, by decide⟩) (congrArg Dt.int e22)) ⟨_, od_IC (fun _ => .int _) (.inl ⟨by omega, by omega⟩), ⟨_, od_I fun _ => .int _, eka_nil ⟨by simp, ?_⟩⟩⟩
      refine ek_callM cT hr (eka_p (ea_cons (ev_v 0) (ea_cons ev_int ea_nil)) ⟨q, 0, dPool (takeS (takeS t.1 3) 1000000), [.int 3], _, _, rfl, rfl, ⟨takeS (takeS t.1 3) 1000000, 3, okB, by decide, by decide, rfl, rfl, rfl, rfl⟩, ⟨_, od_ixL (at3 vC.1 vC.2), ?_⟩⟩)
      have hlast : t.2.getLast? = some (t.2.getLastD 0) := by
        rw [List.getLastD_eq_getLast?]
        cases hx : t.2.getLast? with
        | none => exact absurd (List.getLast?_eq_none_iff.mp hx) hne
        | some z => rfl
      refine sds_cons (sd_app 1 (ev_v 2) (ev_add (ev_view 1 2 (d0 := .lst (t.2.map Dt.int)) (ev_ixL (ev_v 2) (ev_neg ev_int) (atI_last (f := Dt.int) hlast))) (ev_v 4)) rfl (by rw [List.length_map]; omega) (sds_nil ?_))
      refine ⟨[some (.ref q), some (.int 5), some (.ref pf), none, none], by repeat (first | exact Le.nil | apply Le.some | apply Le.none), lineStep t, by rw [fold_succ, ← ht], okC, by unfold lineStep; simp, ?_, rfl, ?_⟩
      · unfold lineStep
        rw [List.length_append, List.length_singleton]
        omega
      · unfold lineStep memL
        dsimp only
        rw [List.map_append]
        rfl
    · rintro ρ1 M1 ⟨t, ht, _, _, _, rfl, rfl⟩
      have ht' : t = linesOf p := ht
      subst ht'
      refine sds_freeze 1 2 (p := pf) (d0 := .lst ((linesOf p).2.map Dt.int)) ?_
      exact sds_cons (sd_ret (ev_v 2) ⟨rfl, 0, rfl⟩)
end
end BR
/-! BrX10: the law's region, its squares. -/
namespace BR
open PySem PySem.Spec PyProof.Rows L2
theorem atZ_at {xs : List Int} {i : Int} (h0 : 0 ≤ i) (h1 : i < xs.length) : atI (xs.map Dt.int) i = some (.int (atZ xs i)) := by
  obtain ⟨n, rfl⟩ := Int.eq_ofNat_of_zero_le h0
  have hn : n < xs.length := by omega
  rw [atI_nat (f := Dt.int) (List.getElem?_eq_getElem hn)]
  unfold atZ
  rw [Int.toNat_natCast, List.getD_eq_getElem?_getD, List.getElem?_eq_getElem hn]
  rfl
structure MadeOk (xs ys : List Int) (cells : List Pr) : Prop where
  c : ∀ c ∈ cells, CellOk xs ys c ∧ okBox (boxAt xs ys c)
  m : ∀ pre c post, cells = pre ++ c :: post → MixOk (madeF xs ys pre) (slabsOf [boxAt xs ys c])
section
variable {P : Program} {w : World} {K : PySem.W.Frag} {mg : Str → Option Value} {base : Heap} {C : Addr}
def rMade : List Dt → Dt → Prop := fun ds d => ∃ (cells : List Pr) (xs ys : List Int), MadeOk xs ys cells ∧ ds = [.lst (cells.map dPr), .lst (xs.map Dt.int), .lst (ys.map Dt.int)] ∧ d = .reg (dForm (madeF xs ys cells)) false
theorem c_law_made {f : Addr} {fd : FuncData} (F : Fun K "_law_made" "_law_made" s_law_made f fd) (hm : mg "_law_made" = some (.ref f)) (hc : PySem.W.selfFirst K C = true) (cE : EmptyD P w K mg base C) (cO : OfD P w K mg base C) (oO : OwnD P w K mg base C 5 "__or__" rUnited) : CalD P w K mg base C 6 "_law_made" rMade :=
  calD F sc_law_made hm (fun _ _ _ _ _ _ us hl => match us, hl with | [_, _, _], _ => rfl) (by rintro ds d ⟨_, _, _, _, rfl, _⟩; rfl) fun cdv A outer s H E ds d hr h => by
    obtain ⟨cells, xs, ys, ok, rfl, rfl⟩ := h
    refine sds_cons (sd_set 3 (ev_empty cE hr) ?_ sc_law_made.nd)
    refine sds_cons (sd_forS (xs := cells) (enc := dPr) (ei_lst (ev_v 0)) (eg_t (egs_cons (eg_n 4 sc_law_made.nd) (egs_cons (eg_n 5 sc_law_made.nd) egs_nil))) (fun pre => [some (.lst (cells.map dPr)), some (.lst (xs.map Dt.int)), some (.lst (ys.map Dt.int)), some (.reg (dForm (madeF xs ys pre)) false), none, none]) (fun _ => []) .refl rfl (fun pre c post e => ⟨[some (.lst (cells.map dPr)), some (.lst (xs.map Dt.int)), some (.lst (ys.map Dt.int)), some (.reg (dForm (madeF xs ys pre)) false), some (.int c.1), some (.int c.2)], rfl, ?_⟩) (sds_cons (sd_ret (ev_v 3) rfl)))
    obtain ⟨k, kb⟩ := ok.c c (by rw [e]; simp)
    have k0 := k.x0
    have k1 := k.x1
    have k2 := k.y0
    have k3 := k.y1
    refine sds_cons (sd_set 3 (ev_orR oO hc hr (ev_v 3) (ev_of cO hr (b := boxAt xs ys c) (ev_tup (ea_cons (ev_ixL (ev_v 1) (ev_v 4) (atZ_at k0 (by omega))) (ea_cons (ev_ixL (ev_v 2) (ev_v 5) (atZ_at k2 (by omega))) (ea_cons (ev_ixL (ev_v 1) (ev_add (ev_v 4) ev_int) (atZ_at (by omega) k1)) (ea_cons (ev_ixL (ev_v 2) (ev_add (ev_v 5) ev_int) (atZ_at (by omega) k3)) ea_nil))))) kb) ⟨_, _, ok.m pre c post e, rfl, rfl⟩) (sds_nil ?_) sc_law_made.nd)
    have em : madeF xs ys (pre ++ [c]) = mixed (madeF xs ys pre) (slabsOf [boxAt xs ys c]) .or := by unfold madeF; rw [List.foldl_append]; rfl
    rw [em]
    exact nx_of rfl
def rFar : List Dt → List Dt → Dt → List Dt → Prop := fun ds es d ds' => ∃ (p : Pool) (xs ys : List Int) (c : Pr), PoolOk p ∧ CellOk xs ys c ∧ ds = dPool p ∧ es = [.lst (xs.map Dt.int), .lst (ys.map Dt.int), dPr c] ∧ d = dPr (farSq p xs ys c).2 ∧ ds' = dPool (farSq p xs ys c).1
theorem c_law_far_square {f : Addr} {fd : FuncData} (F : Fun K "_law_far_square" "_law_far_square" s_law_far_square f fd) (hm : mg "_law_far_square" = some (.ref f)) (cT : CalM P w K mg base C 1 "_law_take" rTakeP) : CalM P w K mg base C 2 "_law_far_square" rFar :=
  calM F sc_law_far_square hm (fun _ _ _ _ _ _ us hl => match us, hl with | [_, _, _, _], _ => rfl) (by rintro ds es d ds' ⟨p, _, _, _, _, _, _, rfl, _⟩; rfl) fun cdv A outer s H E q ds es d ds' hr h => by
    obtain ⟨p, xs, ys, c, ok, k, rfl, rfl, rfl, rfl⟩ := h
    have k0 := k.x0
    have k1 := k.x1
    have k2 := k.y0
    have k3 := k.y1
    have v0 := takeV_ok (p := p) (m := 3) (by decide)
    have v1 := takeV_ok (p := takeS p 3) (m := 3) (by decide)
    have ok1 := takeS_ok (m := 3) ok (by decide)
    refine sds_cons (sd_asg (ev_v 3) (eg_t (egs_cons (eg_n 4 sc_law_far_square.nd) (egs_cons (eg_n 5 sc_law_far_square.nd) egs_nil))) rfl ?_)
    refine sds_cons (sd_asg (ev_tup (ea_cons (ev_ixL (ev_v 1) (ev_v 4) (atZ_at k0 (by omega))) (ea_cons (ev_ixL (ev_v 1) (ev_add (ev_v 4) ev_int) (atZ_at (by omega) k1)) (ea_cons (ev_ixL (ev_v 2) (ev_v 5) (atZ_at k2 (by omega))) (ea_cons (ev_ixL (ev_v 2) (ev_add (ev_v 5) ev_int) (atZ_at (by omega) k3)) ea_nil)))))
      (eg_t (egs_cons (eg_n 6 sc_law_far_square.nd) (egs_cons (eg_n 7 sc_law_far_square.nd) (egs_cons (eg_n 8 sc_law_far_square.nd) (egs_cons (eg_n 9 sc_law_far_square.nd) egs_nil))))) rfl ?_)
    show SDs _ _ _ [some (.ref q), some (.lst (xs.map Dt.int)), some (.lst (ys.map Dt.int)), some (dPr c), some (.int c.1), some (.int c.2), some (.int (atZ xs c.1)), some (.int (atZ xs (c.1 + 1))), some (.int (atZ ys c.2)), some (.int (atZ ys (c.2 + 1))), none] _ _
    refine sds_cons (sd_setK 10 (ek_ixL (i := 0) (ek_p (ev_new (en_lst (ea_cons (ev_v 6) (ea_cons (ev_sub (ev_v 7) ev_int) (ea_cons (ev_add (ev_v 6) (ev_fdiv (ev_sub (ev_v 7) (ev_v 6)) ev_int ⟨by decide, by decide⟩)) ea_nil))))) (ek_callM cT hr (eka_p (ea_cons (ev_v 0) (ea_cons ev_int ea_nil)) ⟨q, 0, dPool p, [.int 3], _, _, rfl, rfl, ⟨p, 3, ok, by decide, by decide, rfl, rfl, rfl, rfl⟩, ⟨_, od_ixL (at3 v0.1 v0.2), ?_⟩⟩)))) sc_law_far_square.nd)
    refine sds_cons (sd_retK (ek_tup (eka_cons (ek_p (ev_v 10) (eka_cons (ek_ixL (i := 0) (ek_p (ev_new (en_lst (ea_cons (ev_v 8) (ea_cons (ev_sub (ev_v 9) ev_int) (ea_cons (ev_add (ev_v 8) (ev_fdiv (ev_sub (ev_v 9) (ev_v 8)) ev_int ⟨by decide, by decide⟩)) ea_nil))))) (ek_callM cT hr (eka_p (ea_cons (ev_v 0) (ea_cons ev_int ea_nil)) ⟨q, 0, dPool (takeS p 3), [.int 3], _, _, rfl, rfl, ⟨takeS p 3, 3, ok1, by decide, by decide, rfl, rfl, rfl, rfl⟩, ⟨_, od_ixL (at3 v1.1 v1.2), eka_nil ⟨by simp, rfl, 0, rfl⟩⟩⟩)))))))))
end
end BR
/-! BrX12: a dict that will change no more, locked for good. -/
namespace BR
open PySem PySem.Spec PyProof.Rows L2
section
variable {X : Cx} {C : Addr} {ρ : DE} {M : Mem} {P : Po} {ss : List Stmt}
theorem sds_lock (n i : Nat) {p : Addr} {ks : List (List Key)} {ds : List Dt} (h : SDs X C ss (ρ.set i (some (.lck ks ds))) (M.eraseIdx n) P) (hM : M[n]? = some (p, .dct ks ds) := by rfl) (hi : ρ[i]? = some (some (.ref p)) := by rfl) : SDs X C ss ρ M P := by
  refine ⟨fun pins s σ H D I ⟨Fb, Hb, F, b, In, q⟩ => ?_⟩
  obtain ⟨f1, ho, hh, kvs, rfl, hk, hv⟩ := In.m.m n p _ hM
  subst hk
  obtain ⟨od, I1⟩ := I.lock hh trivial
  have hb0 := b.n n p _ hM
  have hml := (List.getElem?_eq_some_iff.mp hM).1
  have s1 : Same F (upd F p (.frz od (.dT kvs))) := same_new f1
  have ne : ∀ (j : Nat) a u, (M.eraseIdx n)[j]? = some (a, u) → a ≠ p := fun j a u hj z => by
    subst z
    rw [List.getElem?_eraseIdx] at hj
    have nd := In.m.nd
    have a2 : (M.map (·.1))[n]? = some a := by rw [List.getElem?_map, hM]; rfl
    split at hj
    · rename_i hlt
      have a1 : (M.map (·.1))[j]? = some a := by rw [List.getElem?_map, hj]; rfl
      have := nd_ix nd a1 a2
      omega
    · rename_i hlt
      have a1 : (M.map (·.1))[j + 1]? = some a := by rw [List.getElem?_map, hj]; rfl
      have := nd_ix nd a1 a2
      omega
  have old : ∀ (j : Nat) a u, (M.eraseIdx n)[j]? = some (a, u) → ∃ j', M[j']? = some (a, u) := fun j a u hj => by
    rw [List.getElem?_eraseIdx] at hj
    split at hj
    · exact ⟨_, hj⟩
    · exact ⟨_, hj⟩
  refine h.run pins s σ (upd H p (.frz od (.dT kvs))) D I1 ⟨Fb, Hb, upd F p (.frz od (.dT kvs)), ⟨⟨fun a u e => ?_, b.x.f.trans s1, fun a u e => ?_, fun a ha => ?_⟩, fun j a u hj => ?_⟩, ⟨fun a u e => ?_, by rw [List.length_set]; exact In.len, fun j d hj => ?_, ⟨fun j a u hj => ?_, ?_⟩⟩, q⟩
  · rw [upd_ne (fun z => by rw [z, hb0] at e; cases e)]
    exact b.x.h _ _ e
  · by_cases z : a = p
    · subst z; rw [upd_same] at e ⊢; exact e
    · rw [upd_ne z] at e ⊢; exact In.fh _ _ e
  · rw [upd_ne (fun z => ha.ne (by rw [z]; exact hb0))]
    exact b.x.old a ha
  · obtain ⟨j', hj'⟩ := old j a u hj
    exact b.n j' a u hj'
  · by_cases z : a = p
    · subst z; rw [upd_same] at e ⊢; exact e
    · rw [upd_ne z] at e ⊢; exact In.fh _ _ e
  · by_cases hij : i = j
    · subst hij
      obtain ⟨v, hv', rv⟩ := In.sl i _ hi
      rw [List.getElem?_set_self (List.getElem?_eq_some_iff.mp hi).1] at hj
      injection hj with hj
      injection hj with hj
      subst hj
      rw [rv.inj_ref] at hv'
      exact ⟨_, hv', .lck upd_same (hv.to s1)⟩
    · rw [List.getElem?_set_ne hij] at hj
      obtain ⟨v, hv', rv⟩ := In.sl j d hj
      exact ⟨v, hv', rv.to s1⟩
  · obtain ⟨j', hj'⟩ := old j a u hj
    obtain ⟨k1, k2, k3, k4⟩ := In.m.m j' a u hj'
    have hz := ne j a u hj
    exact ⟨by rw [upd_ne hz]; exact k1, k2, by rw [upd_ne hz]; exact k3, k4.to s1⟩
  · exact In.m.nd.sublist ((List.eraseIdx_sublist ..).map _)
theorem Ext.tup {F H : Hp} {q : Addr} {xs : List V} (e : Same F H) (h : H q = some (.tup xs)) : Ext F H (upd F q (.tup xs)) H := ⟨.refl _, fun a u z => by
  by_cases ha : a = q
  · subst ha
    rw [upd_same]
    rw [e _ _ z] at h
    exact h.symm
  · rw [upd_ne ha]; exact z, fun a u z => by
  by_cases ha : a = q
  · subst ha; rw [upd_same] at z; rw [h]; exact z
  · rw [upd_ne ha] at z; exact e _ _ z, fun a ha => by
  refine upd_ne fun z => ?_
  subst z
  obtain ⟨u, h1, h2⟩ := ha
  rw [h] at h1
  exact h2 xs (Option.some.inj h1).symm⟩
theorem dw_keys {β : Type} {es : List (Pr × β)} {F : Hp} {a : Addr} {o : Obj} {kvs : List (List Key × V)} (h : F a = some (.frz o (.dT kvs))) (hk : kvs.map (·.1) = es.map fun kv => kP kv.1) : DW C (Itkt a o kvs) ((es.map (·.1)).map dPr) F := by
  have w := walk_keysT (d := a) (o := o) (kvs := kvs)
  have hl : kvs.length = ((es.map (·.1)).map dPr).length := by
    have := congrArg List.length hk
    simpa using this
  unfold DW
  rw [← hl]
  refine w.mono (fun H e => e _ _ h) fun i H x H' hi e ⟨y1, k, v, q, y2, y3, y4⟩ => ?_
  subst y1 y3
  have hi' : i < es.length := by
    have := hi
    rw [hl, List.length_map, List.length_map] at this
    exact this
  have e1 : (kvs.map (·.1))[i]? = some k := by rw [List.getElem?_map, y2]; rfl
  rw [hk, List.getElem?_map, List.getElem?_eq_getElem hi'] at e1
  have e1 : kP (es[i]).1 = k := Option.some.inj e1
  subst e1
  refine ⟨dPr (es[i]).1, by rw [List.getElem?_map, List.getElem?_map, List.getElem?_eq_getElem hi']; rfl, fun F1 s1 s2 => ⟨_, .tup s2 y4, .tup upd_same (.cons (.int _) (.cons (.int _) .nil))⟩⟩
def lD {β : Type} (enc : β → Dt) (es : List (Pr × β)) : Dt := .lck (es.map fun kv => kP kv.1) (es.map fun kv => enc kv.2)
theorem ei_keys {β : Type} {enc : β → Dt} {es : List (Pr × β)} {tg e : Expr} (h : Ev X C ρ M e (lD enc es)) : EvI X C ρ M tg e ((es.map (·.1)).map dPr) := PI.imp (pi_keys h) fun σ H R ⟨F, I, q⟩ => ⟨F, I, fun v F1 H1 e1 r => by
  obtain ⟨a, o, kvs, rfl, hf, hk, hv⟩ := r.inj_lck
  exact ⟨a, o, rfl, .inr ⟨kvs, e1.fh _ _ hf, q _ F1 H1 e1 (dw_keys hf hk)⟩⟩⟩
theorem ev_unl {β : Type} {enc : β → Dt} {es : List (Pr × β)} {e : Expr} (h : Ev X C ρ M e (lD enc es)) : Ev X C ρ M e (dD enc es) := PE.imp h fun σ H Q ⟨F, I, q⟩ => ⟨F, I, fun v F1 H1 e1 r => q v F1 H1 e1 r.unl⟩
end
end BR
/-! BrX11: the law's crossings. -/
namespace BR
open PySem PySem.Spec PyProof.Rows L2
theorem cutm1 (xs : List V) : cutV xs none (some (-1)) = xs.dropLast := by
  unfold cutV
  have h1 : HT.sIx xs.length 0 none = 0 := rfl
  have h2 : HT.sIx xs.length xs.length (some (-1)) = xs.length - 1 := by
    unfold HT.sIx
    simp
    omega
  rw [h1, h2, List.dropLast_eq_take]
  rfl
section
variable {X : Cx} {C : Addr} {ρ : DE} {M : Mem} {e : Expr} {ds : List Dt} {pos : Pos}
theorem en_cutLast {k : Nat} {p3 p4 p5 : Pos} (h : Ev X C ρ M e (.lst ds)) : EvN X C ρ M (.Subscript e (.Slice none (some (.UnaryOp .USub (.Constant (.int 1) k p3) p4)) none p5) pos) ds.dropLast :=
  PE.imp (pe_slice sl_list h po_none (po_some (pe_un un_neg pe_int))) fun σ H Q ⟨F, I, q⟩ => ⟨F, I, fun v F1 H1 e1 r1 => by
    obtain ⟨p, xs, rfl, hp, ra⟩ := r1.inj_lst
    refine ⟨1, rfl, -1, rfl, p, xs, rfl, .of (e1.fh _ _ hp), fun l hl => ?_⟩
    rw [cutm1]
    exact q l _ F1 _ (e1.free hl) (e1.trans (.newH e1.fh hl)) (e1.fh.free hl) upd_same ra.dropLast⟩
end
section
variable {P : Program} {w : World} {K : PySem.W.Frag} {mg : Str → Option Value} {base : Heap} {C : Addr}
structure LcOk (cells : List Pr) (xs ys : List Int) : Prop where
  c : ∀ c ∈ cells, CellOk xs ys c
  l : cells.length ≤ 25
  lx : xs.length ≤ 20
  ly : ys.length ≤ 20
theorem lcRaw_len {xs : List Int} {a b : Int} (h : xs.length ≤ 20) : (lcRaw xs a b).length ≤ 42 := by
  unfold lcRaw
  rw [List.length_append, List.length_append, List.length_map, List.length_drop, List.length_dropLast]
  show 2 + _ + _ ≤ _
  omega
def dCross (cols rows : List Int) (es : Own) : Dt := .lst [.lst (cols.map Dt.int), .lst (rows.map Dt.int), lD Dt.bl es]
def rLCross : List Dt → Dt → Prop := fun ds d => ∃ (cells : List Pr) (xs ys : List Int) (p q : Pr), LcOk cells xs ys ∧ ds = [.lst (cells.map dPr), .lst (xs.map Dt.int), .lst (ys.map Dt.int), dPr p, dPr q] ∧
  d = dCross (sortU (lcRaw xs p.1 q.1)) (sortU (lcRaw ys p.2 q.2)) (ownOf cells xs ys (sortU (lcRaw xs p.1 q.1)) (sortU (lcRaw ys p.2 q.2)))
theorem c_law_crossings {f : Addr} {fd : FuncData} (F : Fun K "_law_crossings" "_law_crossings" s_law_crossings f fd) (hm : mg "_law_crossings" = some (.ref f)) (B : NB mg) : CalD P w K mg base C 1 "_law_crossings" rLCross :=
  calD F sc_law_crossings hm (fun _ _ _ _ _ _ us hl => match us, hl with | [_, _, _, _, _], _ => rfl) (by rintro ds d ⟨_, _, _, _, _, _, rfl, _⟩; rfl) fun cdv A outer s H E ds d hr h => by
    obtain ⟨cells, xs, ys, p, q, ok, rfl, rfl⟩ := h
    have lx := lcRaw_len (a := p.1) (b := q.1) ok.lx
    have ly := lcRaw_len (a := p.2) (b := q.2) ok.ly
    have okx := ok.lx
    have oky := ok.ly
    refine sds_cons (sd_set 6 (ev_new (en_sortedSet (ns := lcRaw xs p.1 q.1) (lcRaw xs p.1 q.1) (Ev.cast (ev_new (en_catL (ev_new (en_catL (ev_new (en_lst (ea_cons (ev_ixT (ev_v 3) ev_int) (ea_cons (ev_ixT (ev_v 4) ev_int) ea_nil)))) (ev_new (en_cutLast (ev_v 1))) ?_)) (ev_new (en_lc1 (own := [("_law_x", 5)]) (xs := xs.drop 1) (enc := Dt.int) (f := fun x => Dt.int (x - 1)) (ei_lst (Ev.cast (ev_new (en_drop1 (ev_v 1))) (by rw [List.map_drop]))) (eb_n 5 sc_law_crossings.nd)
      (fun x hx => ⟨_, rfl, fun _ _ _ _ _ => ev_sub (ev_v 5) ev_int⟩) (by rw [List.length_drop]; omega) sc_law_crossings.nd (blkOk_by (N := n_law_crossings) (sc := defScope s_law_crossings) (by decide +kernel)))) ?_)) ?_) (by omega) (by omega) (fun k h => h) (B.h _ (by decide)) (B.h _ (by decide)))) ?_ sc_law_crossings.nd)
    · rw [List.length_dropLast, List.length_map]; show 2 + _ ≤ _; omega
    · rw [List.length_append, List.length_dropLast, List.length_map, List.length_map, List.length_drop]; show 2 + _ + _ ≤ _; omega
    · unfold lcRaw
      rw [List.map_append, List.map_append, List.map_dropLast, List.map_map]
      rfl
    show SDs _ _ _ [some (.lst (cells.map dPr)), some (.lst (xs.map Dt.int)), some (.lst (ys.map Dt.int)), some (dPr p), some (dPr q), none, some (.lst ((sortU (lcRaw xs p.1 q.1)).map Dt.int)), none, none, none, none, none] _ _
    refine sds_cons (sd_set 8 (ev_new (en_sortedSet (ns := lcRaw ys p.2 q.2) (lcRaw ys p.2 q.2) (Ev.cast (ev_new (en_catL (ev_new (en_catL (ev_new (en_lst (ea_cons (ev_ixT (ev_v 3) ev_int) (ea_cons (ev_ixT (ev_v 4) ev_int) ea_nil)))) (ev_new (en_cutLast (ev_v 2))) ?_)) (ev_new (en_lc1 (own := [("_law_y", 7)]) (xs := ys.drop 1) (enc := Dt.int) (f := fun x => Dt.int (x - 1)) (ei_lst (Ev.cast (ev_new (en_drop1 (ev_v 2))) (by rw [List.map_drop]))) (eb_n 7 sc_law_crossings.nd)
      (fun x hx => ⟨_, rfl, fun _ _ _ _ _ => ev_sub (ev_v 7) ev_int⟩) (by rw [List.length_drop]; omega) sc_law_crossings.nd (blkOk_by (N := n_law_crossings) (sc := defScope s_law_crossings) (by decide +kernel)))) ?_)) ?_) (by omega) (by omega) (fun k h => h) (B.h _ (by decide)) (B.h _ (by decide)))) ?_ sc_law_crossings.nd)
    · rw [List.length_dropLast, List.length_map]; show 2 + _ ≤ _; omega
    · rw [List.length_append, List.length_dropLast, List.length_map, List.length_map, List.length_drop]; show 2 + _ + _ ≤ _; omega
    · unfold lcRaw
      rw [List.map_append, List.map_append, List.map_dropLast, List.map_map]
      rfl
    refine sds_cons (sd_setK 9 (ek_d0 fun po => ?_) sc_law_crossings.nd)
    have mX : (sortU (lcRaw xs p.1 q.1)).length ≤ 42 := Nat.le_trans (sortU_len fun k h => h) lx
    have mY : (sortU (lcRaw ys p.2 q.2)).length ≤ 42 := Nat.le_trans (sortU_len fun k h => h) ly
    generalize sortU (lcRaw xs p.1 q.1) = cols at mX
    generalize sortU (lcRaw ys p.2 q.2) = rows at mY
    refine SDs.le (ρ' := [some (.lst (cells.map dPr)), some (.lst (xs.map Dt.int)), some (.lst (ys.map Dt.int)), some (dPr p), some (dPr q), none, some (.lst (cols.map Dt.int)), none, some (.lst (rows.map Dt.int)), some (.ref po), none, none]) ?_ (by repeat (first | exact Le.nil | apply Le.some | apply Le.none))
    have big : ∀ (l : List Pr), l.length ≤ 25 → l.length * (cols.length * rows.length) ≤ 25 * (42 * 42) := fun l h => Nat.mul_le_mul h (Nat.mul_le_mul mX mY)
    have bigx : ∀ (l : List Int), l.length ≤ 42 → l.length * rows.length ≤ 42 * 42 := fun l h => Nat.mul_le_mul h mY
    refine sds_cons (sd_forS (xs := cells) (enc := dPr) (ei_lst (ev_v 0)) (eg_t (egs_cons (eg_n 10 sc_law_crossings.nd) (egs_cons (eg_n 11 sc_law_crossings.nd) egs_nil))) (fun _ => [some (.lst (cells.map dPr)), some (.lst (xs.map Dt.int)), some (.lst (ys.map Dt.int)), some (dPr p), some (dPr q), none, some (.lst (cols.map Dt.int)), none, some (.lst (rows.map Dt.int)), some (.ref po), none, none]) (fun pre => [(po, dD Dt.bl (ownOf pre xs ys cols rows))]) .refl rfl (fun pre c post e => ⟨[some (.lst (cells.map dPr)), some (.lst (xs.map Dt.int)), some (.lst (ys.map Dt.int)), some (dPr p), some (dPr q), none, some (.lst (cols.map Dt.int)), none, some (.lst (rows.map Dt.int)), some (.ref po), some (.int c.1), some (.int c.2)], rfl, ?_⟩) ?_)
    · have lp : pre.length ≤ 25 := by
        have := ok.l
        rw [e, List.length_append] at this
        omega
      have k := ok.c c (by rw [e]; simp)
      have l1 := ownC_len xs ys cols rows pre []
      have b1 := big pre lp
      have e1 : ownOf (pre ++ [c]) xs ys cols rows = cols.foldl (ownX xs ys rows c) (ownOf pre xs ys cols rows) := by unfold ownOf; rw [List.foldl_append]; rfl
      have l1 : (ownOf pre xs ys cols rows).length ≤ 25 * (42 * 42) := by unfold ownOf; simp only [List.length_nil] at l1; omega
      rw [e1]
      generalize ownOf pre xs ys cols rows = es1 at l1
      refine sds_cons (sd_forS (xs := cols) (enc := Dt.int) (ei_lst (ev_v 6)) (eg_n 5 sc_law_crossings.nd) (fun _ => [some (.lst (cells.map dPr)), some (.lst (xs.map Dt.int)), some (.lst (ys.map Dt.int)), some (dPr p), some (dPr q), none, some (.lst (cols.map Dt.int)), none, some (.lst (rows.map Dt.int)), some (.ref po), some (.int c.1), some (.int c.2)]) (fun pre => [(po, dD Dt.bl (pre.foldl (ownX xs ys rows c) es1))]) .refl rfl (fun prx x posx ex => ⟨[some (.lst (cells.map dPr)), some (.lst (xs.map Dt.int)), some (.lst (ys.map Dt.int)), some (dPr p), some (dPr q), some (.int x), some (.lst (cols.map Dt.int)), none, some (.lst (rows.map Dt.int)), some (.ref po), some (.int c.1), some (.int c.2)], rfl, ?_⟩) (sds_nil (nx_of rfl)))
      have lpx : prx.length ≤ 42 := by
        rw [ex, List.length_append] at mX
        omega
      have l2 := ownX_len xs ys rows c prx es1
      have b2 := bigx prx lpx
      rw [List.foldl_append (l' := [x])]
      show SDs _ _ _ _ _ _
      generalize prx.foldl (ownX xs ys rows c) es1 = es2 at l2
      refine sds_cons (sd_forS (xs := rows) (enc := Dt.int) (ei_lst (ev_v 8)) (eg_n 7 sc_law_crossings.nd) (fun _ => [some (.lst (cells.map dPr)), some (.lst (xs.map Dt.int)), some (.lst (ys.map Dt.int)), some (dPr p), some (dPr q), some (.int x), some (.lst (cols.map Dt.int)), none, some (.lst (rows.map Dt.int)), some (.ref po), some (.int c.1), some (.int c.2)]) (fun pre => [(po, dD Dt.bl (pre.foldl (ownY xs ys c x) es2))]) .refl rfl (fun pry y posy ey => ⟨[some (.lst (cells.map dPr)), some (.lst (xs.map Dt.int)), some (.lst (ys.map Dt.int)), some (dPr p), some (dPr q), some (.int x), some (.lst (cols.map Dt.int)), some (.int y), some (.lst (rows.map Dt.int)), some (.ref po), some (.int c.1), some (.int c.2)], rfl, ?_⟩) (sds_nil (nx_of rfl)))
      have l3 := ownY_len xs ys c x pry es2
      have lpy : pry.length ≤ 42 := by
        rw [ey, List.length_append] at mY
        omega
      rw [List.foldl_append (l' := [y])]
      generalize pry.foldl (ownY xs ys c x) es2 = es3 at l3
      have k0 := k.x0
      have k1 := k.x1
      have k2 := k.y0
      have k3 := k.y1
      refine sds_cons (sd_if (k := cellHas xs ys c (x, y)) (EvW.t (ew_and (et_chain (ev_ixL (ev_v 1) (ev_v 10) (atZ_at k0 (by omega))) (ev_v 5) (ev_ixL (ev_v 1) (ev_add (ev_v 10) ev_int) (atZ_at (by omega) k1))) fun _ => ew_and1 (et_chain (ev_ixL (ev_v 2) (ev_v 11) (atZ_at k2 (by omega))) (ev_v 7) (ev_ixL (ev_v 2) (ev_add (ev_v 11) ev_int) (atZ_at (by omega) k3))))) (fun hb => ?_) fun hb => ?_)
      · refine sds_cons (sd_putD 0 (enc := Dt.bl) (b := true) (es := es3) (p := (x, y)) hr (ev_v 9) (ev_tup (ea_cons (ev_v 5) (ea_cons (ev_v 7) ea_nil))) ev_bl rfl (by omega) (sds_nil (sds_nil ?_)))
        have : [y].foldl (ownY xs ys c x) es3 = pt es3 (x, y) true := by
          show ownY xs ys c x es3 y = _
          unfold ownY
          rw [if_pos hb]
        rw [this]
        exact nx_of rfl
      · have : [y].foldl (ownY xs ys c x) es3 = es3 := by
          show ownY xs ys c x es3 y = _
          unfold ownY
          rw [if_neg (by rw [hb]; exact Bool.false_ne_true)]
        rw [this]
        exact sds_nil (sds_nil (nx_of rfl))
    · refine sds_lock 0 9 (p := po) (ks := (ownOf cells xs ys cols rows).map fun kv => kP kv.1) (ds := (ownOf cells xs ys cols rows).map fun kv => Dt.bl kv.2) ?_
      exact sds_cons (sd_ret (ev_new (en_lst (ea_cons (ev_v 6) (ea_cons (ev_v 8) (ea_cons (ev_v 9) ea_nil))))) rfl)
end
end BR
/-! BrX13: a comprehension whose element changes things. -/
namespace BR
open PySem PySem.Spec PyProof.Rows L2
/-- a new list behind all others -/
def tKL (C : Addr) (ρ : DE) (M : Mem) (k : List Dt → Mem → Prop) : TE := fun σ H Q => ∃ Fb Hb F, Bs Fb Hb M F H ∧ En C F ρ M σ H ∧ ∀ p ds M' F' H', k ds M' → Same F F' → Bs Fb Hb (M' ++ [(p, .lst ds)]) F' H' → En C F' ρ (M' ++ [(p, .lst ds)]) σ H' → Q (.ref p) H'
structure EvLK (X : Cx) (C : Addr) (ρ : DE) (M : Mem) (e : Expr) (k : List Dt → Mem → Prop) : Prop where
  n : PE X e (tKL C ρ M k)
  s : ∀ (i : Nat) (y : Str) (py spos : Pos), X.N[i]? = some y → X.env.scope.names.lookup y = some .local → swapsWith e (some (.Name y py)) spos.line X.env = pure true → PS X (.Assign [.Name y py] e spos) (fun D σ H => tKL C ρ M k σ H fun x H1 => D.nx (σ.set i (some x)) H1)
theorem Bs.sub {Fb Hb F H : Hp} {M N : Mem} (b : Bs Fb Hb (M ++ N) F H) : Bs Fb Hb M F H := ⟨b.x, fun i p d h => b.n i p d (by
  have hl : i < M.length := (List.getElem?_eq_some_iff.mp h).1
  rw [List.getElem?_append_left hl]
  exact h)⟩
section
variable {X : Cx} {C : Addr} {ρ : DE} {M : Mem} {elt tg iter : Expr} {scope : Scope} {pos : Pos} {own : List (Str × Nat)} {st : Stor} {sl : List Nat} {α : Type} {xs : List α} {enc : α → Dt} {k : List Dt → Mem → Prop}
theorem last_ix {M : Mem} {p : Addr} {d : Dt} : (M ++ [(p, d)])[M.length]? = some (p, d) := by simp
theorem not_mem_last {M : Mem} {p : Addr} {d : Dt} (nd : ((M ++ [(p, d)]).map (·.1)).Nodup) : ¬ p ∈ M.map (·.1) := fun z => by
  rw [List.map_append] at nd
  exact (List.nodup_append.mp nd).2.2 p z p (by simp) rfl
theorem gatherK {I : Nat → List Dt → Mem → Prop} {vs : List Nat} {g : TG} {J : It} {D : Addr} {σ : L2.St} {F0 H0 Fb Hb : Hp} {Qd : Hp → Prop} {BB : DE → Mem → (Dt → Mem → Prop) → Prop} (hg : Sto C g st sl) (hsl : ∀ i ∈ sl, i ∈ vs) (wk : DW C J (xs.map enc) F0)
    (b0 : Bs Fb Hb (M ++ [(D, .lst [])]) F0 H0) (I0 : En C F0 ρ (M ++ [(D, .lst [])]) σ H0) (h0 : I 0 [] M) (hl : xs.length ≤ 100000) (hn : ∀ j ds M1, I j ds M1 → ds.length = j)
    (turn : ∀ j x ds M1, xs[j]? = some x → I j ds M1 → ∃ ρ2, st (wipeD ρ vs) (enc x) = some ρ2 ∧ BB ρ2 M1 (fun d M2 => I (j + 1) (ds ++ [d]) M2))
    (hend : ∀ ds M1 F H, I xs.length ds M1 → Same F0 F → Bs Fb Hb (M1 ++ [(D, .lst ds)]) F H → En C F ρ (M1 ++ [(D, .lst ds)]) σ H → Qd H) :
    ∃ W : Nat → Nat → Hp → Prop, (∃ m, W 0 m H0) ∧ ∀ j m H, W j m H → (J.stop j H ∧ Qd H) ∨ (J.go j H ∧ ∃ Nx1 : Hp → Prop, (∀ H', Nx1 H' → ∃ m', m' < m ∧ W (j + 1) m' H') ∧ ∀ x H', J.yld j H x H' → g x (L2.wipe σ vs) H' fun σ3 H5 => L2.wipe σ3 vs = L2.wipe σ vs ∧
      (tYes σ3 H5 fun b H6 => if b = true then (tEmitL (fun σ H Q => ∃ ρ2 M2 k, BB ρ2 M2 k ∧ tK C ρ2 M2 k σ H Q) D σ3 H6 Nx1) else Nx1 H6)) := by
  refine ⟨fun j m H => m = xs.length - j ∧ j ≤ xs.length ∧ ∃ F ds M1, I j ds M1 ∧ Same F0 F ∧ Bs Fb Hb (M1 ++ [(D, .lst ds)]) F H ∧ En C F ρ (M1 ++ [(D, .lst ds)]) σ H, ⟨_, rfl, Nat.zero_le _, F0, [], M, h0, .refl _, b0, I0⟩, ?_⟩
  rintro j m H ⟨rfl, hj, F, ds, M1, hI, eF, b, In⟩
  by_cases hlt : j < xs.length
  · refine .inr ⟨wk.goes j H (by rw [List.length_map]; exact hlt) (eF.trans b.x.fh), fun H' => ∃ F ds M1, I (j + 1) ds M1 ∧ Same F0 F ∧ Bs Fb Hb (M1 ++ [(D, .lst ds)]) F H' ∧ En C F ρ (M1 ++ [(D, .lst ds)]) σ H', fun H' ⟨F, ds, M1, h1, h2, h3, h4⟩ => ⟨xs.length - (j + 1), by omega, rfl, hlt, F, ds, M1, h1, h2, h3, h4⟩, fun x H' y => ?_⟩
    obtain ⟨d', hd', hF⟩ := wk.yields j H x H' (by rw [List.length_map]; exact hlt) (eF.trans b.x.fh) y
    rw [List.getElem?_map] at hd'
    obtain ⟨z, hz, rfl⟩ := Option.map_eq_some_iff.mp hd'
    obtain ⟨F2, e2, r2⟩ := hF F eF b.x.fh
    obtain ⟨ρ2, s2, bb⟩ := turn j z ds M1 hz hI
    have I2 := (In.ext e2).wipe (vs := vs)
    have In2 := In.ext e2
    have b2 := b.ext e2
    refine hg (wipeD ρ vs) ρ2 _ (enc z) x F2 H' _ _ s2 I2 r2 fun σ3 I3 but => ⟨by rw [but vs hsl, wipe_wipe], ?_⟩
    simp only [tYes, if_true]
    have nm : ¬ D ∈ M1.map (·.1) := not_mem_last I3.m.nd
    have bM := b2.sub
    obtain ⟨f0, ho, hh, acc, rfl, ra⟩ := I3.m.m _ D _ last_ix
    have hwD : hw M1 H' D = some (.lst acc) := by rw [hw_out nm]; exact hh
    refine ⟨ρ2, M1, _, bb, F2, hw M1 H', F2, rebase (C := C) bM I3.sub.m, I3.sub, fun v d M2 F4 H4 hI2 s4 b4 I4 r4 => ?_⟩
    have hD4 : H4 D = some (.lst acc) := b4.x.h _ _ hwD
    have fD4 : F4 D = none := by
      rw [b4.x.old D ⟨_, hwD, fun xs z => nomatch z⟩]
      exact f0
    have n4 : ∀ (i : Nat) q u, M2[i]? = some (q, u) → q ≠ D := fun i q u hi z => by
      have := b4.n i q u hi
      rw [z, hwD] at this
      cases this
    have hlen := hn _ _ _ hI
    refine ⟨acc, hD4, by rw [ra.length, hlen]; exact Nat.lt_of_lt_of_le hlt (Nat.le_trans hl (by decide)), F4, ds ++ [d], M2, hI2, eF.trans (e2.f.trans s4), ?_, ?_⟩
    · have bu := unbase bM b4
      refine ⟨⟨fun a o e => ?_, bu.x.f, fun a o e => ?_, bu.x.old⟩, fun i q u hi => ?_⟩
      · rw [upd_ne (fun z => by rw [z, b.n _ D _ last_ix] at e; cases e)]
        exact bu.x.h a o e
      · rw [upd_ne (fun z => by rw [z, fD4] at e; cases e)]
        exact bu.x.fh a o e
      · rw [List.getElem?_append] at hi
        split at hi
        · exact bu.n i q u hi
        · rw [List.getElem?_singleton] at hi
          split at hi
          · cases hi
            exact b.n _ D _ last_ix
          · cases hi
    · have m4 := I4.m.push fD4 hD4 (show RepO C F4 (.lst acc) (.lst ds) from ⟨acc, rfl, ra.to s4⟩) n4
      have I5 : En C F4 ρ (M2 ++ [(D, .lst ds)]) σ H4 := sl_old In2 s4 I4.fh m4
      have I6 := chg_ok (d1 := .lst (ds ++ [d])) I5 last_ix (show RepO C F4 (.lst (acc ++ [v])) (.lst (ds ++ [d])) from ⟨_, rfl, (ra.to s4).snoc r4⟩)
      have e : (M2 ++ [(D, Dt.lst ds)]).set M2.length (D, .lst (ds ++ [d])) = M2 ++ [(D, .lst (ds ++ [d]))] := by simp
      rw [e] at I6
      exact I6
  · have ej : j = xs.length := by omega
    subst ej
    have wst := wk.stops H (eF.trans b.x.fh)
    rw [List.length_map] at wst
    exact .inl ⟨wst, hend ds M1 F H hI eF b In⟩
theorem el_lcK (hi : EvI X C ρ M tg iter (xs.map enc)) (hg : EvG (Xb X scope) C tg st sl) (I : Nat → List Dt → Mem → Prop) (h0 : I 0 [] M) (hn : ∀ j ds M1, I j ds M1 → ds.length = j)
    (turn : ∀ j x ds M1, xs[j]? = some x → I j ds M1 → ∃ ρ2, st (wipeD ρ (own.map (·.2))) (enc x) = some ρ2 ∧ InB X scope fun Y => EvK Y C ρ2 M1 elt fun d M2 => I (j + 1) (ds ++ [d]) M2)
    (hk : ∀ ds M1, I xs.length ds M1 → k ds M1)
    (hz : xs.length ≤ 100000) (hN : X.N.Nodup) (ok : BlkOk X.N X.env.scope scope own) (hsl : ∀ i ∈ sl, i ∈ own.map (·.2) := by decide) (hc : X.calm = true := by rfl) (hs : ∀ x, foldedSetIterable iter X.env x = pure x := by intro _; rfl) :
    EvLK X C ρ M (.ListComp elt [⟨tg, iter, [], 0⟩] scope pos) k := by
  obtain ⟨g, g1, g2⟩ := hg.ex
  let te : TE := fun σ H Q => ∃ ρ2 M2 k, (InB X scope fun Y => EvK Y C ρ2 M2 elt k) ∧ tK C ρ2 M2 k σ H Q
  have hE : InB X scope fun Y => PE Y elt te := fun s H E cl fp => ⟨fun pins s' σ H' Q I ⟨ρ2, M2, k, h, t⟩ => (h s H E cl fp).run pins s' σ H' Q I t⟩
  have hL : ∀ (s : Shared) (H : Hp) (E : Addr) (cl : List (Str × Addr)) (fp : List Addr) (D : Addr), Lev (X.blk s H scope (compEnvC scope cl E X.env) fp) (deeper (.ListComp elt [⟨tg, iter, [], 0⟩] scope pos) [⟨tg, iter, [], 0⟩] (do let _ ← call (.builtin "list.append") [.ref D, ← eval elt (compEnvC scope cl E X.env)]) 1 (.ref D) (compEnvC scope cl E X.env)) [] (tEmitL te D) :=
    fun s H E cl fp D => lev_elt_L rfl rfl (hE s H E cl fp)
  have rd : ∀ (σ : L2.St) (H : Hp) (Q : VK), tKL C ρ M k σ H Q → tComp (fun _ => .lst []) (tRI C ρ M (xs.map enc)) g tYes (tEmitL te) (own.map (·.2)) σ H Q := fun σ H Q ⟨Fb, Hb, F, b, In, q⟩ => by
    refine ⟨F, In, fun J F1 H1 e1 w D hD => ?_⟩
    have e2 : Ext F1 H1 F1 (upd H1 D (.lst [])) := .newH e1.fh hD
    have I1 := In.ext e1
    refine gatherK (I := I) (BB := fun ρ2 M2 k => InB X scope fun Y => EvK Y C ρ2 M2 elt k) g2 hsl (w.mono (fun _ h => h) fun _ _ _ _ _ _ h => h) (push_bs (b.ext e1) e2 hD) (push_en I1 e2 hD (e1.fh.free hD) upd_same ⟨[], rfl, .nil⟩) h0 hz hn turn fun ds M1 F' H' hI e' b' I' => ?_
    exact q D ds M1 F' H' (hk _ _ hI) (e1.f.trans e') b' I'
  refine ⟨PE.imp (pe_cL (vs' := []) hc hN hi ok (fun i h => by cases h) (fun s H E cl fp => g1 _ ⟨s, H, E, cl, fp, rfl⟩) (fun s H E cl fp => pts_nil) hL hs) rd, fun i y py spos hy hyl hsw => ?_⟩
  exact PS.imp (ps_setL (vs' := []) hc hN hy hyl hsw hi ok (fun i h => by cases h) (fun s H E cl fp => g1 _ ⟨s, H, E, cl, fp, rfl⟩) (fun s H E cl fp => pts_nil) hL hs) fun D σ H h => rd σ H _ h
end
/-- the last object changes no more -/
theorem last_view {C : Addr} {ρ : DE} {M : Mem} {σ : L2.St} {Fb Hb F H : Hp} {p : Addr} {d : Dt} (I : En C F ρ (M ++ [(p, d)]) σ H) (b : Bs Fb Hb (M ++ [(p, d)]) F H) (hv : vw d = true) : ∃ h, H p = some h ∧ Same F (upd F p h) ∧ En C (upd F p h) ρ M σ H ∧ Bs Fb Hb M (upd F p h) H ∧ Rp C (upd F p h) (.ref p) d := by
  obtain ⟨f0, h, hh, r⟩ := I.m.m _ p d last_ix
  have s1 : Same F (upd F p h) := same_new f0
  have nm := not_mem_last I.m.nd
  have fh : Same (upd F p h) H := fun a o e => by
    by_cases z : a = p
    · subst z; rw [upd_same] at e; rw [hh]; exact e
    · rw [upd_ne z] at e; exact I.fh a o e
  refine ⟨h, hh, s1, ⟨fh, I.len, fun i e hi => ?_, ⟨fun i q u hi => ?_, I.m.sub.nd⟩⟩, ⟨b.x.join hh (b.n _ p _ last_ix) f0, b.sub.n⟩, (r.to s1).rp upd_same hv⟩
  · obtain ⟨v, h1, h2⟩ := I.sl i e hi
    exact ⟨v, h1, h2.to s1⟩
  · obtain ⟨k1, k2, k3, k4⟩ := I.m.sub.m i q u hi
    have : q ≠ p := fun z => nm (by rw [← z]; exact mem_of_ix hi)
    exact ⟨by rw [upd_ne this]; exact k1, k2, k3, k4.to s1⟩
section
variable {X : Cx} {C : Addr} {ρ : DE} {M : Mem} {P : Po} {e elt : Expr} {gs : List Comprehension} {scope : Scope} {pos py spos : Pos} {k : List Dt → Mem → Prop}
/-- as a datum -/
theorem ek_lcK {k' : Dt → Mem → Prop} (h : EvLK X C ρ M e k) (hk : ∀ ds M', k ds M' → k' (.lst ds) M') : EvK X C ρ M e k' := PE.imp h.n fun σ H Q ⟨Fb, Hb, F, b, I, q⟩ => ⟨Fb, Hb, F, b, I, fun p ds M' F' H' h' s' b' I' => by
  obtain ⟨h, hh, s1, I2, b2, r2⟩ := last_view I' b' rfl
  exact q _ _ M' _ H' (hk ds M' h') (s'.trans s1) b2 I2 r2⟩
theorem sd_setLK (i : Nat) {y : Str} (h : EvLK X C ρ M (.ListComp elt gs scope pos) k) (hp : ∀ ds M', k ds M' → P.nx (ρ.set i (some (.lst ds))) M') (hN : X.N[i]? = some y := by rfl) (hl : X.env.scope.names.lookup y = some .local := by rfl) (hk : X.env.scope.kind = .function := by rfl) (hline : (py.line == pos.line) = true := by rfl) (ha : (scope.names.any fun (n, k) => n == y && (k == .local || k == .cell)) = false := by rfl) : SD X C (.Assign [.Name y py] (.ListComp elt gs scope pos) spos) ρ M P :=
  PS.imp (h.s i y py spos hN hl (sw_true hk hl hline ha)) fun D σ H ⟨Fb, Hb, F, b, I, q⟩ => ⟨Fb, Hb, F, b, I, fun p ds M' F' H' h' s' b' I' => by
    obtain ⟨h, hh, s1, I2, b2, r2⟩ := last_view I' b' rfl
    exact q.nx _ M' _ _ H' (hp ds M' h') b2 (I2.set r2)⟩
end
end BR
/-! BrX14: dict(pairs) and {k: v}, keys tuples of ints. -/
namespace BR
open PySem PySem.Spec PyProof.Rows L2
section
variable {X : Cx}
def mergeT (kvs more : List (List Key × V)) : List (List Key × V) := more.foldl (fun acc kv => putK acc kv.1 kv.2) kvs
theorem length_mergeT : ∀ (more kvs : List (List Key × V)), (mergeT kvs more).length ≤ kvs.length + more.length
  | [], kvs => by show kvs.length ≤ kvs.length + 0; omega
  | p :: r, kvs => by
    have h1 := length_mergeT r (putK kvs p.1 p.2)
    have h2 := length_putK kvs p.1 p.2
    show (mergeT (putK kvs p.1 p.2) r).length ≤ _
    rw [List.length_cons]; omega
theorem KT.merge {H : Hp} : ∀ {more : List (List Key × V)} {rs : List (List Key × Addr × Value)} {kvs : List (List Key × V)} {vs : List (List Key × Addr × Value)}, KT H more rs → KT H kvs vs → KT H (mergeT kvs more) (storedAllH vs rs) := by
  intro more rs kvs vs r
  unfold KT at r
  induction r generalizing kvs vs with
  | nil => intro q; exact q
  | @cons p q ps qs h t ih =>
    intro r0
    have e : KT H (putK kvs p.1 p.2) (storedH vs q.1 q.2.1 q.2.2) := by
      have := r0.put p.1 h.2.1 h.2.2
      rw [← h.1]; exact this
    exact ih e
/-- one pair: the tuple at p holds a tuple of keys, and a value -/
def PairK (X : Cx) (H : Hp) (p : Addr) (kv : List Key × V) : Prop := ∃ b, SqT X.K H p [.ref b, kv.2] ∧ H b = some (.tup (kv.1.map kV))
theorem pairs_ofT {pins : List (Addr × Obj)} {σ : L2.St} {H : Hp} {s : Shared} (I : Inv X pins σ H s) : ∀ {ps : List Addr} {kvs : List (List Key × V)}, Paired (PairK X H) ps kvs →
    ∃ prs : List (List Key × Addr × Value), KT H kvs prs ∧ prs.length = ps.length ∧ ∀ (j : Nat) (q : List Key × Addr × Value), prs[j]? = some q → ∃ (b : Addr), ps[j]? = some b ∧ IsTup s.heap b #[.ref q.2.1, q.2.2]
  | _, _, .nil => ⟨[], .nil, rfl, fun j q e => by simp at e⟩
  | _, _, .cons (a := p) (b := kv) h t => by
    obtain ⟨prs, r, hl, hp⟩ := pairs_ofT I t
    obtain ⟨b, h, hb⟩ := h
    obtain ⟨its, rv, ht, _⟩ := I.tuple h
    obtain ⟨u, y, ei, ru, ry⟩ := vals2 rv
    subst ei
    cases (show u = Value.ref b from ru)
    refine ⟨(kv.1, b, y) :: prs, .cons ⟨rfl, hb, ry⟩ r, by rw [List.length_cons, List.length_cons, hl], fun j q e => ?_⟩
    cases j with
    | zero =>
      have e' : (kv.1, b, y) = q := Option.some.inj e
      subst e'
      exact ⟨p, rfl, ht⟩
    | succ j =>
      obtain ⟨b', e1, e2⟩ := hp j q (by simpa using e)
      exact ⟨b', by simpa using e1, e2⟩
/-- dict(xs) of a list of pairs (key, value), keys tuples -/
theorem call_dictPT {n : Nat} (hr : Room n X.A) : CallR X (.type "dict") (fun xs H Q => ∃ (a : Addr) (ps : List Addr) (kvs : List (List Key × V)), xs = [.ref a] ∧ SqL X.K H a (ps.map V.ref) ∧ Paired (PairK X H) ps kvs ∧
    ∀ p, H p = none → Q (.ref p) (upd H p (.dT (mergeT [] kvs)))) := by
  intro pins s σ H xs us Q I r q
  obtain ⟨a, ps, kvs, ex, hq, hp, q⟩ := q
  subst ex
  obtain ⟨u, eu, rx⟩ := vals1 r
  subst eu
  cases rx
  obtain ⟨its, rv, pl, hz⟩ := I.list hq
  have ei := refs_at rv
  subst ei
  rw [List.length_map] at hz
  obtain ⟨prs, rel, hl, hpr⟩ := pairs_ofT I hp
  obtain ⟨o, n', ho, hc, hd, hdat⟩ := pl
  let vps : List (Value × Value) := prs.map fun q => (.ref q.2.1, q.2.2)
  have hlv : vps.length = ps.length := by rw [List.length_map, hl]
  have ok : PlainSeq "list" s.heap a (ps.map Value.ref).toArray ∧ PairItems s.heap (ps.map Value.ref).toArray (fun j => ps.getD j 0) vps := by
    refine ⟨⟨o, n', ho, hc, hd, hdat⟩, by simp [hlv], fun j k v e => ?_⟩
    rw [List.getElem?_map] at e
    obtain ⟨q', e1, e2⟩ := Option.map_eq_some_iff.mp e
    obtain ⟨b, e3, e4⟩ := hpr j q' e1
    cases e2
    refine ⟨by simp [e3], .inl ?_⟩
    have : ps.getD j 0 = b := by simp [e3]
    show s.heap.IsTuple (ps.getD j 0) _
    rw [this]
    exact e4
  have keys : ∀ x ∈ prs, H x.2.1 = some (.tup (x.1.map kV)) := by
    have all : ∀ {l : List (List Key × V)} {m : List (List Key × Addr × Value)}, KT H l m → ∀ x ∈ m, H x.2.1 = some (.tup (x.1.map kV)) := by
      intro l m q
      induction q with
      | nil => intro x hx; exact nomatch hx
      | @cons p q ps qs hq t ih =>
        intro x hx
        rcases List.mem_cons.mp hx with e | hx
        · subst e
          rw [← hq.1]; exact hq.2.1
        · exact ih x hx
    exact all rel
  refine call_dict_pairsH (knd := tupleKind (mixKind X.prog X.w)) (ps := prs) (PairArg.list a _ _ vps) hr.hd (by have := hr.units; show X.A.units + 1 + 1 < cLine; omega) ok ⟨by rw [hlv, hl], fun i key v e => ?_⟩ (fun h' hk x hx => ?_) (by rw [hlv]; exact hz) fun h' tk hd' k => ?_
  · have e : vps[i]? = some (key, v) := e
    rw [List.getElem?_map] at e
    obtain ⟨q', e1, e2⟩ := Option.map_eq_some_iff.mp e
    cases e2
    exact ⟨q'.1, q'.2.1, e1, rfl⟩
  · obtain ⟨_, its', r', o', h1, h2, n2, h3⟩ := (show ObjOk X.prog X.w H s.heap x.2.1 (.tup (x.1.map kV)) from I.hok x.2.1 _ (keys x hx))
    exact ⟨o', its'.toArray, n2, hk _ _ (Nat.ne_of_lt (Heap.lt_size h1)) (fun z => nomatch z) h1, h2, h3, by simpa using items_are r'⟩
  · have hm : (s.heap.objs.size == sysModules) = false := beq_eq_false_iff_ne.mpr (Nat.ne_of_gt I.big)
    have hlen : (mergeT [] kvs).length ≤ sizeLine := by
      refine Nat.le_trans (length_mergeT kvs []) ?_
      rw [List.length_nil, Nat.zero_add, Paired.length rel, hl]
      exact hz
    obtain ⟨q1, es, ep, hq1, h2, h3, h4, _, h5⟩ := hd'
    refine ⟨.ref s.heap.objs.size, upd H s.heap.objs.size (.dT (mergeT [] kvs)), I.laid (t' := tk) (fun b o e => k b o (fun z => nomatch z) e) (Nat.le_refl _) ?_, rfl, q _ (I.hok.fresh (Nat.le_refl _))⟩
    exact ⟨hlen, hm, _, (KT.merge rel .nil).keeps fun c ys ec => by rw [upd_ne (fun z => by rw [z, I.hok.fresh (Nat.le_refl _)] at ec; cases ec)]; exact ec, q1, es, ep, hq1, h2, h3, h4, h5⟩
/-- {k: v}, k a tuple -/
def tDisp1 (tk tv : TE) : TE := fun σ H Q => ∀ p, H p = none → tk σ (upd H p (.dT [])) fun x H1 => tv σ H1 fun y H2 => H2 p = some (.dT []) ∧ ∃ b k, x = .ref b ∧ H2 b = some (.tup (List.map kV k)) ∧ Q (.ref p) (upd H2 p (.dT [(k, y)]))
theorem pe_disp1 {n : Nat} {pos : Pos} {k v : Expr} {tk tv : TE} (hr : Room n X.A) (hk : PE X k tk) (hv : PE X v tv) : PE X (.Dict [some k] [v] pos) (tDisp1 tk tv) := by
  refine ⟨fun pins s σ H Q I q => ?_⟩
  have hn := I.hok.fresh (Nat.le_refl s.heap.objs.size)
  have I1 := I.laid (a := s.heap.objs.size) (o := .dT []) (h' := s.heap.push { cls := .type "dict", data := .dict #[] }) (t' := s.toks) (fun _ _ q => Heap.get?_push_of_some _ q) (Nat.le_refl _) (dt_empty s.heap I.big)
  have hshape := zip_pairTrees [some k] [v] X.env pos rfl rfl
  rw [arm_eval_Dict, hshape, dictDisplay_pairs (pairTrees [some k] [v] X.env pos) (fun z => by cases z) (Nat.le_of_ble_eq_true rfl)]
  refine wpAny_bind (wpAny_standAt (wpAny_bind (wpAny_subDictH (knd := tupleKind (mixKind X.prog X.w)) (by have := hr.units; show X.A.units < cLine; omega) (Nat.le_of_ble_eq_true rfl) ?_)))
  refine pairTrees_cons_walk (thn (hk.run pins _ σ _ _ I1 (q _ hn)) fun u s1 ⟨x, H1, I2, ru, q1⟩ => thn (hv.run pins s1 σ H1 _ I2 q1) fun vv s2 ⟨y, H2, I3, ry, eD, b, ks, ex, hb, q2⟩ => pairTrees_nil_walk ?_)
  subst ex
  cases (show u = Value.ref b from ru)
  obtain ⟨z, hd, xs, r0, dd⟩ := dt_of I3.hok eD
  cases r0
  refine ⟨[(ks, b, vv)], ⟨rfl, rfl, key_of I3.hok hb, trivial⟩, dd, fun h' tk hd' hs => wpAny_pure ⟨.ref s.heap.objs.size, upd H2 s.heap.objs.size (.dT [(ks, y)]), ?_, rfl, q2⟩⟩
  obtain ⟨q1, es, ep, hq1, h2, h3, h4, _, h5⟩ := hd'
  have rel : KT H2 [(ks, y)] [(ks, b, vv)] := .cons ⟨rfl, hb, ry⟩ .nil
  have rel2 : KT H2 (mergeT [] [(ks, y)]) (storedAllH [] [(ks, b, vv)]) := KT.merge rel .nil
  have e1 : mergeT [] [(ks, y)] = [(ks, y)] := rfl
  rw [e1] at rel2
  refine d_write I3 (by rw [eD]; exact True.intro) hs ⟨q1, hq1⟩ ⟨by show 1 ≤ _; decide, hd, _, rel2.keeps fun c ys ec => ?_, q1, es, ep, hq1, h2, h3, h4, h5⟩
  rw [upd_ne (fun z => by rw [z, eD] at ec; cases ec)]
  exact ec
end
section
variable {X : Cx} {C : Addr} {ρ : DE} {M : Mem} {e k v : Expr} {pos : Pos} {β : Type} {enc : β → Dt} {p : Pr} {b : β}
theorem ek_disp1 {n : Nat} {kk : Dt → Mem → Prop} (hr : Room n X.A) (hk : Ev X C ρ M k (dPr p)) (hv : Ev X C ρ M v (enc b)) (h : ∀ q, kk (.ref q) (M ++ [(q, dD enc [(p, b)])])) : EvK X C ρ M (.Dict [some k] [v] pos) kk :=
  PE.imp (pe_disp1 hr hk hv) fun σ H Q ⟨Fb, Hb, F, bs, I, q⟩ => fun D hD => by
    have e0 : Ext F H F (upd H D (.dT [])) := .newH I.fh hD
    refine ⟨F, I.ext e0, fun x F1 H1 e1 r1 => ⟨F1, (I.ext e0).ext e1, fun y F2 H2 e2 r2 => ?_⟩⟩
    have hD2 : H2 D = some (.dT []) := e2.h _ _ (e1.h _ _ upd_same)
    have so : Solid ((upd H D (.dT [])) D) := ⟨_, upd_same, fun xs z => nomatch z⟩
    have fD1 : F1 D = none := by rw [e1.old D so]; exact I.fh.free hD
    have fD2 : F2 D = none := by rw [e2.old D (so.same e1.h)]; exact fD1
    obtain ⟨c, rfl, hc⟩ := key_rep r1
    refine ⟨hD2, c, kP p, rfl, e2.fh _ _ (e2.f _ _ hc), ?_⟩
    have e02 := (e0.trans e1).trans e2
    -- the dict in its last form
    have ee : Ext F H F2 (upd H2 D (.dT [(kP p, y)])) := ⟨fun a o z => by
      rw [upd_ne (fun w => by rw [w, hD] at z; cases z)]; exact e02.h a o z, e02.f, fun a o z => by
      rw [upd_ne (fun w => by rw [w, fD2] at z; cases z)]; exact e02.fh a o z, e02.old⟩
    exact q _ _ _ F2 _ (h D) ee.f (push_bs bs ee hD) (push_en I ee hD fD2 upd_same ⟨[(kP p, y)], rfl, rfl, .cons r2 .nil⟩) (.ref D)
theorem merge_rep {F : Hp} : ∀ {l : List (Pr × Dt)} {more kvs : List (List Key × V)} {es : List (Pr × Dt)}, more.map (·.1) = l.map (fun x => kP x.1) → RpAll C F (more.map (·.2)) (l.map (·.2)) → kvs.map (·.1) = es.map (fun kv => kP kv.1) → RpAll C F (kvs.map (·.2)) (es.map fun kv => id kv.2) →
    (mergeT kvs more).map (·.1) = (l.foldl (fun a x => pt a x.1 x.2) es).map (fun kv => kP kv.1) ∧ RpAll C F ((mergeT kvs more).map (·.2)) ((l.foldl (fun a x => pt a x.1 x.2) es).map fun kv => id kv.2)
  | [], [], kvs, es, _, _, h, r => ⟨h, r⟩
  | [], _ :: _, _, _, h, _, _, _ => by simp at h
  | _ :: _, [], _, _, h, _, _, _ => by simp at h
  | x :: l, m :: more, kvs, es, h, r, hk, rk => by
    rw [List.map_cons, List.map_cons] at h
    injection h with h1 h2
    rw [List.map_cons, List.map_cons] at r
    obtain ⟨v', vs, e1, rv, rs⟩ := r.cons_inv
    injection e1 with e1 e2
    subst e1 e2
    obtain ⟨k1, k2⟩ := put_rep (enc := id) (p := x.1) (b := x.2) hk rk rv
    have := merge_rep (l := l) (more := more) h2 rs k1 k2
    rw [← h1] at this
    exact this
theorem pair_rep {F H : Hp} {K : PySem.W.Frag} (e : Same F H) : ∀ {l : List (Pr × Dt)} {xs : List V}, RpAll C F xs (l.map fun x => Dt.tup [dPr x.1, x.2]) →
    ∃ (ps : List Addr) (kvs : List (List Key × V)), xs = ps.map V.ref ∧ kvs.map (·.1) = l.map (fun x => kP x.1) ∧ RpAll C F (kvs.map (·.2)) (l.map (·.2)) ∧ Paired (fun p kv => ∃ b, SqT K H p [.ref b, kv.2] ∧ H b = some (.tup (kv.1.map kV))) ps kvs
  | [], xs, r => by
    rw [List.map_nil] at r
    rw [r.nil_inv]
    exact ⟨[], [], rfl, rfl, .nil, .nil⟩
  | x :: l, xs, r => by
    rw [List.map_cons] at r
    obtain ⟨v, vs, rfl, rv, rs⟩ := r.cons_inv
    obtain ⟨ps, kvs, rfl, h2, h3, h4⟩ := pair_rep e rs
    obtain ⟨p, ys, rfl, hp, ra⟩ := rv.inj_tup
    obtain ⟨u, w, rfl, r1, r2⟩ := ra.two
    obtain ⟨b, rfl, hb⟩ := key_rep r1
    exact ⟨p :: ps, (kP x.1, w) :: kvs, rfl, by rw [List.map_cons, List.map_cons, h2], .cons r2 h3, .cons ⟨b, .of (e _ _ hp), e _ _ hb⟩ h4⟩
/-- dict(e), e a list of pairs whose keys are squares -/
theorem ek_dictP {n : Nat} {kk : Dt → Mem → Prop} {p3 p4 : Pos} (hr : Room n X.A) (he : EvK X C ρ M e fun d M' => ∃ l : List (Pr × Dt), d = .lst (l.map fun x => Dt.tup [dPr x.1, x.2]) ∧ ∀ q, kk (.ref q) (M' ++ [(q, dD id (l.foldl (fun a x => pt a x.1 x.2) []))])) (hm : X.mg "dict" = none) (hg : Gl X "dict" := by rfl)
    (h2 : starEach [e] X.env = (false, eval e X.env) :: starEach [] X.env := by rfl) (hp2 : (backTo p4 (starEach [] X.env)).any (·.1) = false := by rfl) : EvK X C ρ M (.Call (.Name "dict" p3) [e] [] p4) kk :=
  PE.imp (pe_callTy (call_dictPT hr) hg hm (by decide +kernel) (pa_cons he pa_nil h2) (by decide) (by decide) h2 hp2) fun σ H Q ⟨Fb, Hb, F, bs, I, q⟩ => ⟨Fb, Hb, F, bs, I, fun v d M1 F1 H1 ⟨l, hd, hk⟩ s1 b1 I1 r1 => by
    subst hd
    obtain ⟨a, xs, rfl, ha, rx⟩ := r1.inj_lst
    obtain ⟨ps, kvs, rfl, h3, h4, h5⟩ := pair_rep (K := X.K) I1.fh rx
    refine ⟨a, ps, kvs, rfl, .of (I1.fh _ _ ha), h5, fun D hD => ?_⟩
    have e1 : Ext F1 H1 F1 (upd H1 D (.dT (mergeT [] kvs))) := .newH I1.fh hD
    obtain ⟨m1, m2⟩ := merge_rep (kvs := []) (es := []) h3 h4 rfl .nil
    exact q _ _ _ F1 _ (hk D) s1 (push_bs b1 e1 hD) (push_en I1 e1 hD (I1.fh.free hD) upd_same ⟨_, rfl, m1, m2⟩) (.ref D)⟩
end
end BR
/-! BrX15: the law's links. -/
namespace BR
open PySem PySem.Spec PyProof.Rows L2
theorem enum_len {α : Type} : ∀ (n : Nat) (l : List α), (enum n l).length = l.length
  | _, [] => rfl
  | n, x :: l => by unfold enum; rw [List.length_cons, List.length_cons, enum_len (n + 1) l]
theorem enum_get {α : Type} : ∀ (n : Nat) (l : List α) (i : Nat), (enum n l)[i]? = (l[i]?).map fun x => (n + i, x)
  | _, [], i => by simp [enum]
  | n, x :: l, 0 => by simp [enum]
  | n, x :: l, i + 1 => by
    unfold enum
    rw [List.getElem?_cons_succ, List.getElem?_cons_succ, enum_get (n + 1) l i, Nat.add_right_comm n 1 i]
    rfl
def dIx (x : Nat × Int) : Dt := .tup [.int (x.1 : Nat), .int x.2]
theorem dw_enum {C : Addr} {K : PySem.W.Frag} {F : Hp} {a : Addr} {ns : List Int} (ha : F a = some (.lst (ns.map V.int))) : DW C (Ite K a) ((enum 0 ns).map dIx) F := by
  have w := walk_enum (K := K) (a := a) (xs := ns.map V.int)
  unfold DW
  rw [List.length_map, enum_len]
  rw [List.length_map] at w
  refine w.mono (fun H e => .of (e _ _ ha)) fun i H x H' hi e ⟨T, x1, x2, hx, hT, hH, h1, h2⟩ => ?_
  subst hx
  subst hH
  have h2 : (ns.map V.int)[i]? = some x2 := h2
  have h1 : some (V.int (i : Nat)) = some x1 := h1
  rw [List.getElem?_map, List.getElem?_eq_getElem hi] at h2
  obtain rfl := Option.some.inj h1
  obtain rfl := Option.some.inj h2
  refine ⟨dIx (i, ns[i]), ?_, fun F1 s1 s2 => ⟨_, .new s2 hT, .tup upd_same (.cons (.int _) (.cons (.int _) .nil))⟩⟩
  rw [List.getElem?_map, enum_get, List.getElem?_eq_getElem hi, Nat.zero_add]
  rfl
theorem prev_at {l : List Int} {i : Nat} (h : i < l.length) : atI (l.map Dt.int) ((i : Int) - 1) = some (.int (prevI l i)) := by
  unfold prevI
  cases i with
  | zero =>
    have hn : ixN (l.map Dt.int).length (((0 : Nat) : Int) - 1) = some (l.length - 1) := by
      rw [List.length_map]; exact ixN_last h
    unfold atI
    rw [hn]
    show (l.map Dt.int)[l.length - 1]? = _
    rw [if_pos rfl, List.getElem?_map, List.getElem?_eq_getElem (by omega), List.getLastD_eq_getLast?, List.getLast?_eq_getElem?, List.getElem?_eq_getElem (by omega)]
    rfl
  | succ i =>
    have e : (((i + 1 : Nat)) : Int) - 1 = (i : Nat) := by omega
    rw [e, if_neg (Nat.succ_ne_zero i), atI_nat (f := Dt.int) (List.getElem?_eq_getElem (by omega : i < l.length)), Nat.add_sub_cancel, List.getD_eq_getElem?_getD, List.getElem?_eq_getElem (by omega)]
    rfl
section
variable {X : Cx} {C : Addr} {ρ : DE} {M M' : Mem} {P : Po} {ss : List Stmt} {e : Expr} {p1 pos tpos : Pos} {elts : List Expr} {kk : Nat}
theorem ei_enum {ns : List Int} (h : Ev X C ρ M e (.lst (ns.map Dt.int))) (hm : X.mg "enumerate" = none) (hg : Gl X "enumerate" := by rfl) (hs : starEach [e] X.env = [(false, eval e X.env)] := by rfl) :
    EvI X C ρ M (.Tuple elts kk tpos) (.Call (.Name "enumerate" p1) [e] [] pos) ((enum 0 ns).map dIx) :=
  PI.imp (pi_enum hg hm (pa_cons h pa_nil hs) hs) fun σ H R ⟨F, I, q⟩ => ⟨F, I, fun v F1 H1 e1 r1 => by
    obtain ⟨a, xs, rfl, ha, rx⟩ := r1.inj_lst
    rw [rx.ints] at ha
    exact ⟨a, _, rfl, .of (e1.fh _ _ ha), q _ F1 H1 e1 (dw_enum ha)⟩⟩
theorem SDs.perm (h : SDs X C ss ρ M' P) (p : M'.Perm M) : SDs X C ss ρ M P := PSs.imp h fun D σ H ⟨Fb, Hb, F, b, I, q⟩ => by
  have mm : ∀ i a d, M'[i]? = some (a, d) → ∃ j, M[j]? = some (a, d) := fun i a d hi => List.getElem?_of_mem (p.mem_iff.mp (List.mem_of_getElem? hi))
  refine ⟨Fb, Hb, F, ⟨b.x, fun i a d hi => ?_⟩, ⟨I.fh, I.len, I.sl, ⟨fun i a d hi => ?_, (p.map (·.1)).nodup_iff.mpr I.m.nd⟩⟩, q⟩
  · obtain ⟨j, hj⟩ := mm i a d hi
    exact b.n j a d hj
  · obtain ⟨j, hj⟩ := mm i a d hi
    exact I.m.m j a d hj
end
theorem foldl_pt {β : Type} : ∀ (l : List (Pr × β)) (acc : List (Pr × β)), ((acc ++ l).map (·.1)).Nodup → l.foldl (fun a x => pt a x.1 x.2) acc = acc ++ l
  | [], acc, _ => by simp
  | x :: l, acc, nd => by
    have hn : x.1 ∉ acc.map (·.1) := fun z => by
      rw [List.map_append] at nd
      exact (List.nodup_append.mp nd).2.2 _ z x.1 (by simp) rfl
    have e : pt acc x.1 x.2 = acc ++ [x] := by
      unfold pt
      have : ¬ (acc.any fun kv => decide (kv.1 = x.1)) = true := fun z => hn (inTab_iff.mp z)
      rw [if_neg this]
    rw [List.foldl_cons, e, foldl_pt l (acc ++ [x]) (by rw [List.append_assoc]; exact nd), List.append_assoc]
    rfl
theorem llStep_keys (own : Own) (h : Pr) (es : Tab) (q : Pr) : (llStep own h es q).map (·.1) = es.map (·.1) := by
  unfold llStep
  split
  · rw [addTo_keys, addTo_keys]
  · rfl
theorem llP_keys (own : Own) (h : Pr) : ∀ (l : List Pr) (es : Tab), (l.foldl (llStep own h) es).map (·.1) = es.map (·.1)
  | [], es => rfl
  | q :: l, es => by rw [List.foldl_cons, llP_keys own h l, llStep_keys]
theorem llY_keys (own : Own) (cols rows : List Int) (i : Nat) (x : Int) : ∀ (l : List (Nat × Int)) (es : Tab), (l.foldl (llY own cols rows i x) es).map (·.1) = es.map (·.1)
  | [], es => rfl
  | q :: l, es => by
    rw [List.foldl_cons, llY_keys own cols rows i x l]
    unfold llY
    exact llP_keys ..
theorem llX_keys (own : Own) (cols rows : List Int) : ∀ (l : List (Nat × Int)) (es : Tab), (l.foldl (llX own cols rows) es).map (·.1) = es.map (·.1)
  | [], es => rfl
  | q :: l, es => by
    rw [List.foldl_cons, llX_keys own cols rows l]
    unfold llX
    exact llY_keys ..
structure LinkOk (cols rows : List Int) (own : Own) : Prop where
  lc : cols.length ≤ 42
  lr : rows.length ≤ 42
  lo : own.length ≤ 100000
  nd : (own.map (·.1)).Nodup
section
variable {P : Program} {w : World} {K : PySem.W.Frag} {mg : Str → Option Value} {base : Heap} {C : Addr}
def rLLinks : List Dt → Dt → Prop := fun ds d => ∃ (cols rows : List Int) (own : Own), LinkOk cols rows own ∧ ds = [.lst (cols.map Dt.int), .lst (rows.map Dt.int), lD Dt.bl own] ∧ d = dTab (lawLinks cols rows own)
def tabL (tab : Tb) : Mem := tab.map fun x => (x.2.1, Dt.lst (x.2.2.map dPr))
theorem c_law_links {f : Addr} {fd : FuncData} (F : Fun K "_law_links" "_law_links" s_law_links f fd) (hm : mg "_law_links" = some (.ref f)) (B : NB mg) : CalD P w K mg base C 1 "_law_links" rLLinks :=
  calD F sc_law_links hm (fun _ _ _ _ _ _ us hl => match us, hl with | [_, _, _], _ => rfl) (by rintro ds d ⟨_, _, _, _, rfl, _⟩; rfl) fun cdv A outer s H E ds d hr h => by
    obtain ⟨cols, rows, own, ok, rfl, rfl⟩ := h
    refine sds_cons (sd_setK 4 (ek_dictP hr (ek_lcK (el_lcK (own := [("_law_place", 3)]) (xs := own.map (·.1)) (enc := dPr) (ei_keys (enc := Dt.bl) (ev_v 2)) (eb_n 3 sc_law_links.nd)
      (fun j ds M1 => ∃ tab : Tb, tab.map (·.1) = (own.map (·.1)).take j ∧ (∀ z ∈ tab, z.2.2 = []) ∧ ds = tab.map (fun x => Dt.tup [dPr x.1, Dt.ref x.2.1]) ∧ M1 = tabL tab ∧ tab.length = j) ⟨[], by simp, by simp, rfl, rfl, rfl⟩ ?_ ?_ (k := fun ds M1 => ∃ tab : Tb, tab.map (·.1) = own.map (·.1) ∧ (∀ z ∈ tab, z.2.2 = []) ∧ ds = tab.map (fun x => Dt.tup [dPr x.1, Dt.ref x.2.1]) ∧ M1 = tabL tab) ?_
      (by rw [List.length_map]; exact ok.lo) sc_law_links.nd (blkOk_by (N := n_law_links) (sc := defScope s_law_links) (by decide +kernel))) ?_) (B.h _ (by decide))) sc_law_links.nd)
    · rintro j ds M1 ⟨tab, _, _, rfl, _, e⟩
      rw [List.length_map]; exact e
    · rintro j x ds M1 hx ⟨tab, h1, h2, rfl, rfl, h5⟩
      refine ⟨[some (.lst (cols.map Dt.int)), some (.lst (rows.map Dt.int)), some (lD Dt.bl own), some (dPr x), none, none, none, none, none], rfl, fun _ _ _ _ _ => ek_tup (eka_cons (ek_p (ev_v 3) (eka_cons (ek_n (en_lst ea_nil) fun p => (eka_nil ⟨Nat.le_of_ble_eq_true rfl, tab ++ [(x, p, [])], ?_, ?_, ?_, ?_, ?_⟩)))))⟩
      · rw [List.map_append, h1, List.take_add_one, hx]
        rfl
      · intro z hz
        rcases List.mem_append.mp hz with hz | hz
        · exact h2 z hz
        · rw [List.mem_singleton.mp hz]
      · rw [List.map_append]; rfl
      · unfold tabL; rw [List.map_append]; rfl
      · rw [List.length_append, h5]; rfl
    · rintro ds M1 ⟨tab, h1, h2, h3, h4, _⟩
      exact ⟨tab, by rw [h1, List.take_of_length_le (Nat.le_refl _)], h2, h3, h4⟩
    rintro ds M1 ⟨tab0, h1, h2, rfl, rfl⟩
    have nd0 : (tab0.map (·.1)).Nodup := by rw [h1]; exact ok.nd
    refine ⟨rfs tab0, by unfold rfs; rw [List.map_map]; rfl, fun qd => ?_⟩
    rw [foldl_pt _ _ (by rw [List.nil_append, rfs_keys]; exact nd0), List.nil_append]
    refine SDs.perm (M' := tabM qd tab0) ?_ (List.perm_append_comm (l₁ := [(qd, dD id (rfs tab0))]))
    have e0 : tbl tab0 = own.map fun kv => (kv.1, []) := by
      have : tbl tab0 = tab0.map fun x => (x.1, ([] : List Pr)) := List.map_congr_left fun z hz => by rw [h2 z hz]
      rw [this, show (tab0.map fun x => (x.1, ([] : List Pr))) = (tab0.map (·.1)).map (fun k => (k, [])) by rw [List.map_map]; rfl, h1, List.map_map]
      rfl
    have k0 : (tbl tab0).map (·.1) = own.map (·.1) := by rw [tbl_keys, h1]
    have hl0 : ∀ z ∈ tab0, z.2.2.length ≤ 0 := fun z hz => by rw [h2 z hz]; exact Nat.le_refl _
    unfold lawLinks
    rw [← e0]
    clear e0 h2
    have okc := ok.lc
    have okr := ok.lr
    have key : ∀ {tab : Tb} {p : Pr}, (tbl tab).map (·.1) = own.map (·.1) → (gt own p).isSome = true → p ∈ tab.map (·.1) := fun {tab p} h1 h2 => by
      rw [← tbl_keys, h1]; exact gt_some_iff.mp h2
    show SDs _ _ _ [some (.lst (cols.map Dt.int)), some (.lst (rows.map Dt.int)), some (lD Dt.bl own), none, some (.ref qd), none, none, none, none] _ _
    refine sds_cons (sd_forX (xs := enum 0 cols) (enc := dIx) (ei_enum (ev_v 0) (B.h _ (by decide))) (eg_t (egs_cons (eg_n 5 sc_law_links.nd) (egs_cons (eg_n 6 sc_law_links.nd) egs_nil))) (fun pre ρ1 M1 => ∃ tab : Tb, tbl tab = pre.foldl (llX own cols rows) (tbl tab0) ∧ (∀ z ∈ tab, z.2.2.length ≤ 168 * pre.length) ∧ ρ1 = [some (.lst (cols.map Dt.int)), some (.lst (rows.map Dt.int)), some (lD Dt.bl own), none, some (.ref qd), none, none, none, none] ∧ M1 = tabM qd tab) ⟨tab0, rfl, hl0, rfl, rfl⟩ ?_ ?_)
    · rintro pre ⟨i, x⟩ post ρ1 M1 epre ⟨tab, ht, hlen, rfl, rfl⟩
      have lpre : pre.length + 1 ≤ 42 := by
        have := congrArg List.length epre
        rw [enum_len, List.length_append, List.length_cons] at this
        omega
      have hi : i < cols.length ∧ cols[i]? = some x := by
        have : (enum 0 cols)[pre.length]? = some (i, x) := by rw [epre]; simp
        rw [enum_get] at this
        obtain ⟨y, h3, h4⟩ := Option.map_eq_some_iff.mp this
        cases h4
        rw [Nat.zero_add]
        exact ⟨(List.getElem?_eq_some_iff.mp h3).1, h3⟩
      refine ⟨[some (.lst (cols.map Dt.int)), some (.lst (rows.map Dt.int)), some (lD Dt.bl own), none, some (.ref qd), some (.int (i : Nat)), some (.int x), none, none], rfl, ?_⟩
      refine sds_cons (sd_forX (xs := enum 0 rows) (enc := dIx) (ei_enum (ev_v 1) (B.h _ (by decide))) (eg_t (egs_cons (eg_n 7 sc_law_links.nd) (egs_cons (eg_n 8 sc_law_links.nd) egs_nil))) (fun rpre ρ1 M1 => ∃ tab1 : Tb, tbl tab1 = rpre.foldl (llY own cols rows i x) (tbl tab) ∧ (∀ z ∈ tab1, z.2.2.length ≤ 168 * pre.length + 4 * rpre.length) ∧ ρ1 = [some (.lst (cols.map Dt.int)), some (.lst (rows.map Dt.int)), some (lD Dt.bl own), none, some (.ref qd), some (.int (i : Nat)), some (.int x), none, none] ∧ M1 = tabM qd tab1) ⟨tab, rfl, fun z hz => hlen z hz, rfl, rfl⟩ ?_ ?_)
      · rintro rpre ⟨j, y⟩ rpost ρ1 M1 er ⟨tab1, ht1, hlen1, rfl, rfl⟩
        have lrpre : rpre.length + 1 ≤ 42 := by
          have := congrArg List.length er
          rw [enum_len, List.length_append, List.length_cons] at this
          omega
        have hj : j < rows.length ∧ rows[j]? = some y := by
          have : (enum 0 rows)[rpre.length]? = some (j, y) := by rw [er]; simp
          rw [enum_get] at this
          obtain ⟨y', h3, h4⟩ := Option.map_eq_some_iff.mp this
          cases h4
          rw [Nat.zero_add]
          exact ⟨(List.getElem?_eq_some_iff.mp h3).1, h3⟩
        refine ⟨[some (.lst (cols.map Dt.int)), some (.lst (rows.map Dt.int)), some (lD Dt.bl own), none, some (.ref qd), some (.int (i : Nat)), some (.int x), some (.int (j : Nat)), some (.int y)], rfl, ?_⟩
        refine sds_cons (sd_forX (xs := [(prevI cols i, y), (x, prevI rows j)]) (enc := dPr) (ei_lst (ev_new (en_lst (ea_cons (ev_tup (ea_cons (ev_ixL (ev_v 0) (ev_sub (ev_v 5) ev_int) (prev_at hi.1)) (ea_cons (ev_v 8) ea_nil))) (ea_cons (ev_tup (ea_cons (ev_v 6) (ea_cons (ev_ixL (ev_v 1) (ev_sub (ev_v 7) ev_int) (prev_at hj.1)) ea_nil))) ea_nil))))) (eg_n 3 sc_law_links.nd) (fun ppre ρ1 M1 => ∃ tab2 : Tb, tbl tab2 = ppre.foldl (llStep own (x, y)) (tbl tab1) ∧ (∀ z ∈ tab2, z.2.2.length ≤ 168 * pre.length + 4 * rpre.length + 2 * ppre.length) ∧ ρ1 = [some (.lst (cols.map Dt.int)), some (.lst (rows.map Dt.int)), some (lD Dt.bl own), none, some (.ref qd), some (.int (i : Nat)), some (.int x), some (.int (j : Nat)), some (.int y)] ∧ M1 = tabM qd tab2) ⟨tab1, rfl, fun z hz => hlen1 z hz, rfl, rfl⟩ ?_ ?_)
        · rintro ppre q ppost ρ1 M1 ep ⟨tab2, ht2, hlen2, rfl, rfl⟩
          have lppre : ppre.length + 1 ≤ 2 := by
            have := congrArg List.length ep
            rw [List.length_append, List.length_cons] at this
            simp only [List.length_cons, List.length_nil] at this
            omega
          have k2 : (tbl tab2).map (·.1) = own.map (·.1) := by rw [ht2, llP_keys, ht1, llY_keys, ht, llX_keys, k0]
          have nd2 : (tab2.map (·.1)).Nodup := by rw [← tbl_keys, k2]; exact ok.nd
          refine ⟨[some (.lst (cols.map Dt.int)), some (.lst (rows.map Dt.int)), some (lD Dt.bl own), some (dPr q), some (.ref qd), some (.int (i : Nat)), some (.int x), some (.int (j : Nat)), some (.int y)], rfl, ?_⟩
          refine sds_cons (sd_if (k := ltPr q (x, y) && ((gt own q).isSome && (gt own (x, y)).isSome)) (EvW.t (ew_and (et_ltX odr_pr hr (x := q) (y := (x, y)) (ev_v 3) (ev_tup (ea_cons (ev_v 6) (ea_cons (ev_v 8) ea_nil)))) fun _ => ew_and (et_inD (enc := Dt.bl) hr (ev_v 3) (ev_unl (ev_v 2))) fun _ => ew_and1 (et_inD (enc := Dt.bl) (p := (x, y)) hr (ev_tup (ea_cons (ev_v 6) (ea_cons (ev_v 8) ea_nil))) (ev_unl (ev_v 2))))) (fun hb => ?_) fun hb => ?_)
          · have hb' := hb
            rw [Bool.and_eq_true, Bool.and_eq_true] at hb'
            obtain ⟨_, hb1, hb2⟩ := hb'
            have hb1 := key k2 hb1
            have hb2 := key k2 hb2
            obtain ⟨j1, a, l, hj1⟩ := tb_ix hb1
            have hl := hlen2 _ (List.mem_of_getElem? hj1)
            refine sds_cons (sd_app (j1 + 1) (ev_view 0 4 (p := qd) (d0 := dD id (rfs tab2)) (ev_getD (enc := id) (b := Dt.ref a) hr (ev_v 4) (ev_v 3) (tb_gt nd2 hj1))) (ev_tup (ea_cons (ev_v 6) (ea_cons (ev_v 8) ea_nil))) (tabM_at hj1) (by rw [List.length_map]; dsimp only at hl; omega) ?_)
            show SDs _ _ _ _ ((tabM qd tab2).set (j1 + 1) (a, .lst (l.map dPr ++ [dPr (x, y)]))) _
            rw [tabM_set hj1]
            have hk3 : (tab2.set j1 (q, a, l ++ [(x, y)])).map (·.1) = tab2.map (·.1) := set_same_key hj1 rfl
            have nd3 : ((tab2.set j1 (q, a, l ++ [(x, y)])).map (·.1)).Nodup := by rw [hk3]; exact nd2
            have ht3 := tbl_gt (o := (x, y)) nd2 hj1
            have hlen3 : ∀ z ∈ tab2.set j1 (q, a, l ++ [(x, y)]), z.2.2.length ≤ 168 * pre.length + 4 * rpre.length + 2 * ppre.length + 1 := fun z hz => by
              rcases List.mem_or_eq_of_mem_set hz with h | h
              · exact Nat.le_succ_of_le (hlen2 z h)
              · subst h
                show (l ++ [(x, y)]).length ≤ _
                rw [List.length_append]
                exact Nat.succ_le_succ hl
            generalize tab2.set j1 (q, a, l ++ [(x, y)]) = tab3 at hk3 nd3 ht3 hlen3
            rw [← hk3] at hb2
            obtain ⟨j2, a2, l2, hj2⟩ := tb_ix hb2
            have hl2 := hlen3 _ (List.mem_of_getElem? hj2)
            refine sds_cons (sd_app (j2 + 1) (ev_view 0 4 (p := qd) (d0 := dD id (rfs tab3)) (ev_getD (enc := id) (p := (x, y)) (b := Dt.ref a2) hr (ev_v 4) (ev_tup (ea_cons (ev_v 6) (ea_cons (ev_v 8) ea_nil))) (tb_gt nd3 hj2))) (ev_v 3) (tabM_at hj2) (by rw [List.length_map]; dsimp only at hl2; omega) (sds_nil (sds_nil ?_)))
            rw [tabM_set hj2]
            refine ⟨[some (.lst (cols.map Dt.int)), some (.lst (rows.map Dt.int)), some (lD Dt.bl own), none, some (.ref qd), some (.int (i : Nat)), some (.int x), some (.int (j : Nat)), some (.int y)], by repeat (first | exact Le.nil | apply Le.some | apply Le.none), tab3.set j2 ((x, y), a2, l2 ++ [q]), ?_, fun z hz => ?_, rfl, rfl⟩
            · rw [tbl_gt nd3 hj2, ht3, List.foldl_append, ← ht2]
              show _ = llStep own (x, y) (tbl tab2) q
              unfold llStep
              rw [show ltPr' q (x, y) = ltPr q (x, y) from rfl, if_pos hb]
            · rw [List.length_append, List.length_singleton]
              rcases List.mem_or_eq_of_mem_set hz with h | h
              · exact Nat.le_trans (hlen3 z h) (by omega)
              · subst h
                show (l2 ++ [q]).length ≤ _
                rw [List.length_append, List.length_singleton]
                dsimp only at hl2
                omega
          · refine sds_nil (sds_nil ⟨[some (.lst (cols.map Dt.int)), some (.lst (rows.map Dt.int)), some (lD Dt.bl own), none, some (.ref qd), some (.int (i : Nat)), some (.int x), some (.int (j : Nat)), some (.int y)], by repeat (first | exact Le.nil | apply Le.some | apply Le.none), tab2, ?_, fun z hz => ?_, rfl, rfl⟩)
            · rw [List.foldl_append, ← ht2]
              show _ = llStep own (x, y) (tbl tab2) q
              unfold llStep
              rw [if_neg (by rw [show ltPr' q (x, y) = ltPr q (x, y) from rfl, hb]; exact Bool.false_ne_true)]
            · rw [List.length_append, List.length_singleton]
              have := hlen2 z hz
              omega
        · rintro ρ1 M1 ⟨tab2, ht2, hlen2, rfl, rfl⟩
          refine sds_nil ⟨[some (.lst (cols.map Dt.int)), some (.lst (rows.map Dt.int)), some (lD Dt.bl own), none, some (.ref qd), some (.int (i : Nat)), some (.int x), none, none], by repeat (first | exact Le.nil | apply Le.some | apply Le.none), tab2, ?_, fun z hz => ?_, rfl, rfl⟩
          · rw [List.foldl_append, ← ht1, ht2]
            rfl
          · rw [List.length_append, List.length_singleton]
            have := hlen2 z hz
            simp only [List.length_cons, List.length_nil] at this
            omega
      · rintro ρ1 M1 ⟨tab1, ht1, hlen1, rfl, rfl⟩
        refine sds_nil ⟨[some (.lst (cols.map Dt.int)), some (.lst (rows.map Dt.int)), some (lD Dt.bl own), none, some (.ref qd), none, none, none, none], by repeat (first | exact Le.nil | apply Le.some | apply Le.none), tab1, ?_, fun z hz => ?_, rfl, rfl⟩
        · rw [List.foldl_append, ← ht, ht1]
          rfl
        · rw [List.length_append, List.length_singleton]
          have := hlen1 z hz
          rw [enum_len] at this
          omega
    · rintro ρ1 M1 ⟨tab1, htab1, _, rfl, rfl⟩
      have eD : dDL ((tab1.map fun z => (z.1, z.2.1, z.2.2.map dPr)).map fun x => (x.1, x.2.2)) = dTab (tbl tab1) := by
        unfold dDL dTab dD tbl
        simp only [List.map_map]
        rfl
      refine sds_freezeD 4 (q := qd) (tab1.map fun z => (z.1, z.2.1, z.2.2.map dPr)) ?_ rfl ?_ ?_
      · rw [eD, htab1]
        exact sds_cons (sd_ret (ev_v 4) rfl)
      · have : ((tab1.map fun z => (z.1, z.2.1, z.2.2.map dPr)).map fun x => (x.1, Dt.ref x.2.1)) = rfs tab1 := by
          unfold rfs
          rw [List.map_map]
          rfl
        rw [this]
        exact List.mem_cons_self
      · intro x hx
        obtain ⟨z, hz, rfl⟩ := List.mem_map.mp hx
        exact List.mem_cons_of_mem _ (List.mem_map.mpr ⟨z, hz, rfl⟩)
end
end BR
/-! BrX16: a list taken apart, a dict locked for one statement, d.get(k, x). -/
namespace BR
open PySem PySem.Spec PyProof.Rows L2
section
variable {X : Cx} {C : Addr} {ρ : DE} {M : Mem} {P : Po} {pos : Pos}
def stL' (ss : List Stor) : Stor := fun ρ d => match d with
  | .lst ds => stL ss ds ρ
  | _ => none
theorem eg_l {es : List Expr} {z : Nat} {ss : List Stor} {sl : List Nat} (h : EvGs (Xq X) C es ss sl) (hc : X.calm = true := by rfl) (hn : (assignEach es X.env).length = ss.length := by rfl) (hst : (assignEach es X.env).findIdx? (·.1) = none := by rfl) : EvG (Xq X) C (.Tuple es z pos) (stL' ss) sl := by
  obtain ⟨u, u1, u2⟩ := h.ex
  refine ⟨gUnl X.K ss.length u, fun Y h => ?_, fun ρ ρ' M d x F H σ Q hs I r q => ?_⟩
  · cases h
    exact pg_unl hc (u1 X rfl) hn hst
  cases d with
  | lst ds =>
    obtain ⟨a, xs, rfl, ha, rs⟩ := r.inj_lst
    have hs : stL ss ds ρ = some ρ' := hs
    exact ⟨a, xs, rfl, .of (I.fh _ _ ha), by rw [rs.length, stL_length hs], u2 ρ ρ' M ds xs F H σ Q hs I rs q⟩
  | _ => cases hs
/-- the heap with a dict locked -/
theorem lock_en {F H : Hp} {σ : L2.St} {n i : Nat} {p : Addr} {od : Obj} {kvs : List (List Key × V)} {ds : List Dt} (In : En C F ρ M σ H) (hM : M[n]? = some (p, .dct (kvs.map (·.1)) ds)) (hi : ρ[i]? = some (some (.ref p))) (f1 : F p = none) (hh : H p = some (.dT kvs)) (hv : RpAll C F (kvs.map (·.2)) ds) :
    En C (upd F p (.frz od (.dT kvs))) (ρ.set i (some (.lck (kvs.map (·.1)) ds))) (M.eraseIdx n) σ (upd H p (.frz od (.dT kvs))) := by
  have s1 : Same F (upd F p (.frz od (.dT kvs))) := same_new f1
  have ne : ∀ (j : Nat) a u, (M.eraseIdx n)[j]? = some (a, u) → a ≠ p := fun j a u hj z => by
    subst z
    rw [List.getElem?_eraseIdx] at hj
    have nd := In.m.nd
    have a2 : (M.map (·.1))[n]? = some a := by rw [List.getElem?_map, hM]; rfl
    split at hj
    · have a1 : (M.map (·.1))[j]? = some a := by rw [List.getElem?_map, hj]; rfl
      have := nd_ix nd a1 a2
      omega
    · have a1 : (M.map (·.1))[j + 1]? = some a := by rw [List.getElem?_map, hj]; rfl
      have := nd_ix nd a1 a2
      omega
  have old : ∀ (j : Nat) a u, (M.eraseIdx n)[j]? = some (a, u) → ∃ j', M[j']? = some (a, u) := fun j a u hj => by
    rw [List.getElem?_eraseIdx] at hj
    split at hj
    · exact ⟨_, hj⟩
    · exact ⟨_, hj⟩
  refine ⟨fun a u e => ?_, by rw [List.length_set]; exact In.len, fun j d hj => ?_, ⟨fun j a u hj => ?_, ?_⟩⟩
  · by_cases z : a = p
    · subst z; rw [upd_same] at e ⊢; exact e
    · rw [upd_ne z] at e ⊢; exact In.fh _ _ e
  · by_cases hij : i = j
    · subst hij
      obtain ⟨v, hv', rv⟩ := In.sl i _ hi
      rw [List.getElem?_set_self (List.getElem?_eq_some_iff.mp hi).1] at hj
      injection hj with hj
      injection hj with hj
      subst hj
      rw [rv.inj_ref] at hv'
      exact ⟨_, hv', .lck upd_same (hv.to s1)⟩
    · rw [List.getElem?_set_ne hij] at hj
      obtain ⟨v, hv', rv⟩ := In.sl j d hj
      exact ⟨v, hv', rv.to s1⟩
  · obtain ⟨j', hj'⟩ := old j a u hj
    obtain ⟨k1, k2, k3, k4⟩ := In.m.m j' a u hj'
    have hz := ne j a u hj
    exact ⟨by rw [upd_ne hz]; exact k1, k2, by rw [upd_ne hz]; exact k3, k4.to s1⟩
  · exact In.m.nd.sublist ((List.eraseIdx_sublist ..).map _)
/-- name = [..], while a dict is walked that will change again -/
theorem sd_setCL (n i j : Nat) {y : Str} {elt : Expr} {gs : List Comprehension} {scope : Scope} {ds es : List Dt} {py spos : Pos} {p : Addr} {ks : List (List Key)} (h : EvL X C (ρ.set i (some (.lck ks es))) (M.eraseIdx n) (.ListComp elt gs scope pos) ds) (hp : P.nx (ρ.set j (some (.lst ds))) M) (hd : noLs ds = true)
    (hM : M[n]? = some (p, .dct ks es) := by rfl) (hi : ρ[i]? = some (some (.ref p)) := by rfl) (hN : X.N[j]? = some y := by rfl) (hl : X.env.scope.names.lookup y = some .local := by rfl) (hk : X.env.scope.kind = .function := by rfl) (hline : (py.line == pos.line) = true := by rfl) (ha : (scope.names.any fun (n, k) => n == y && (k == .local || k == .cell)) = false := by rfl) : SD X C (.Assign [.Name y py] (.ListComp elt gs scope pos) spos) ρ M P :=
  PS.imp (ps_lock (h.s j y py spos hN hl (sw_true hk hl hline ha))) fun D σ H ⟨Fb, Hb, F, b, In, q⟩ => by
    obtain ⟨f1, ho, hh, kvs, rfl, hks, hv⟩ := In.m.m n p _ hM
    subst hks
    refine ⟨p, _, hh, trivial, fun od => ⟨_, lock_en In hM hi f1 hh hv, fun l xs F1 H1 hl0 e1 hf hx r => ?_⟩⟩
    have hlp : l ≠ p := fun z => by rw [z, upd_same] at hl0; cases hl0
    have hpF1 : F1 p = some (.frz od (.dT kvs)) := e1.f _ _ upd_same
    refine ⟨e1.h _ _ upd_same, ?_⟩
    have s0 : Same F (upd F p (.frz od (.dT kvs))) := same_new f1
    have hHl : H l = none := by rw [upd_ne hlp] at hl0; exact hl0
    have hFl : F l = none := In.fh.free hHl
    have ee : Ext F H (upd (wo F1 p) l (.lst xs)) (upd H1 p (.dT kvs)) := ⟨fun a o z => by
      by_cases w : a = p
      · subst w; rw [upd_same]; rw [hh] at z; exact z
      · rw [upd_ne w]; exact e1.h a o (by rw [upd_ne w]; exact z), fun a o z => by
      have w : a ≠ p := fun w => by rw [w, f1] at z; cases z
      have w2 : a ≠ l := fun w => by rw [w, hFl] at z; cases z
      rw [upd_ne w2, wo_ne w]
      exact e1.f a o (s0 a o z), fun a o z => by
      by_cases w2 : a = l
      · subst w2; rw [upd_same] at z; rw [upd_ne hlp, hx]; exact z
      · rw [upd_ne w2] at z
        have w : a ≠ p := fun w => by rw [w, wo_same] at z; cases z
        rw [wo_ne w] at z
        rw [upd_ne w]
        exact e1.fh a o z, fun a hs => by
      have w2 : a ≠ l := fun w => by rw [w, hHl] at hs; exact hs.ne rfl
      rw [upd_ne w2]
      by_cases w : a = p
      · subst w; rw [wo_same, f1]
      · have hs' : Solid ((upd H p (.frz od (.dT kvs))) a) := by rw [upd_ne w]; exact hs
        rw [wo_ne w, e1.old a hs', upd_ne w]⟩
    have ts : TSame F1 (upd (wo F1 p) l (.lst xs)) := ⟨fun a zs z => by
      have w2 : a ≠ l := fun w => by rw [w, hf] at z; cases z
      have w : a ≠ p := fun w => by rw [w, hpF1] at z; cases z
      rw [upd_ne w2, wo_ne w]; exact z, fun a D dx fs z => by
      have w2 : a ≠ l := fun w => by rw [w, hf] at z; cases z
      have w : a ≠ p := fun w => by rw [w, hpF1] at z; cases z
      rw [upd_ne w2, wo_ne w]; exact z⟩
    exact q.nx _ M _ _ _ hp (b.ext ee) ((In.ext ee).set (.lst upd_same (RpAll.tx ts ds hd r)))
/-- d.get(k, x) -/
theorem ev_getDD {o e f : Expr} {apos cpos : Pos} {β : Type} {enc : β → Dt} {es : List (Pr × β)} {p : Pr} {b : β} {n : Nat} (hr : Room n X.A) (ho : Ev X C ρ M o (dD enc es)) (he : Ev X C ρ M e (dPr p)) (hf : Ev X C ρ M f (enc b)) (m : M2 X o "get" apos e f cpos := by exact ⟨rfl, rfl, rfl, rfl⟩) : Ev X C ρ M (.Call (.Attribute o "get" apos) [e, f] [] cpos) (enc ((gt es p).getD b)) :=
  PE.imp (pe_dget2 (by have := hr.units; omega) ho he hf m) fun σ H Q ⟨F, I, q⟩ => ⟨F, I, fun x F1 H1 e1 r1 => by
    obtain ⟨a, kvs, rfl, ha, hk, hv⟩ := dD_inv r1
    refine ⟨a, rfl, .inr ⟨kvs, ha.elim (fun z => .inl (e1.fh _ _ z)) fun ⟨o, z⟩ => .inr ⟨o, e1.fh _ _ z⟩⟩, F1, I.ext e1, fun y F2 H2 e2 r2 => ⟨F2, (I.ext e1).ext e2, fun z F3 H3 e3 r3 => ?_⟩⟩
    have ha3 : Rd F3 a (.dT kvs) := ha.elim (fun z => .inl (e3.f _ _ (e2.f _ _ z))) fun ⟨o, z⟩ => .inr ⟨o, e3.f _ _ (e2.f _ _ z)⟩
    refine ⟨valV kvs (kP p), dget_of e3.fh ha3 (r2.to e3.f), ?_⟩
    have hv3 := (hv.to e2.f).to e3.f
    rcases val_rep p hk hv3 with ⟨h1, h2⟩ | ⟨b', v, h1, h2, h3⟩
    · rw [h1] at q; rw [h2]
      exact q z F3 H3 ((e1.trans e2).trans e3) r3
    · rw [h1] at q; rw [h2]
      exact q v F3 H3 ((e1.trans e2).trans e3) h3⟩
end
/-! ### a number and a square, in order -/
open PySem.W
def dIP (e : Int × Pr) : Dt := .tup [.int e.1, dPr e.2]
theorem lt_ip (a b : Int × Pr) : dataLt (toPy (dIP a)) (toPy (dIP b)) = ltI2 a b := by
  have e : ∀ x : Int × Pr, toPy (dIP x) = .tuple [.int x.1, toPy (dPr x.2)] := fun x => by simp only [dIP, toPy, toPys]
  have h1 : ∀ p q : Pr, alike (toPy (dPr p)) (toPy (dPr q)) = true := odr_pr.al
  rw [e, e, dataLt_tuple]
  unfold ltI2
  by_cases h : a.1 = b.1
  · rw [dataLt_all_yes (by simp [alike]) (by simp [PyData.eqv, h])]
    by_cases h2 : a.2 = b.2
    · rw [dataLt_all_yes (h1 _ _) (by rw [eqv_pr]; exact decide_eq_true h2)]
      simp [h, h2, ltPr', keyToksAll, PyProof.Rows.lexLt]
      try rfl
    · rw [dataLt_all_no (h1 _ _) (by rw [eqv_pr]; exact decide_eq_false h2), odr_pr.lt]
      simp [h, ltPr, ltPr']
  · rw [dataLt_all_no (by simp [alike]) (by simp [PyData.eqv, h]), dataLt_int]
    simp [h]
theorem odr_ip : Odr dIP 2 ltI2 := ⟨fun x => by simp [dIP, noR, noRs, cpr_pr.n], fun x y => by
    have h1 : ∀ p q : Pr, alike (toPy (dPr p)) (toPy (dPr q)) = true := odr_pr.al
    simp [dIP, toPy, toPys, alike, alikeAll, h1], fun x => by simp [dIP, toPy], fun x => by
    have h1 : ∀ p : Pr, (toPy (dPr p)).depth ≤ 1 := odr_pr.d
    have a1 := h1 x.2
    simp only [dIP, toPy, toPys, PyData.depth, PyData.depthAll]
    omega, lt_ip⟩
theorem dIP_inj (a b : Int × Pr) (h : toPy (dIP a) = toPy (dIP b)) : a = b := by
  simp only [dIP, dPr, toPy, toPys] at h
  simp at h
  exact Prod.ext h.1 (Prod.ext h.2.1 h.2.2)
theorem minBy_E (r : List (Int × Pr)) : ∀ m, minBy ltI2 m r = minE m r := by
  induction r with
  | nil => intro m; rfl
  | cons e r ih => intro m; exact ih _
theorem left_map {least : Lst} {done : Own} (nd : (least.map (·.1)).Nodup) : (((least.map (·.1)).filter fun k => !(gt done k).isSome).map fun k => dIP ((gt least k).getD 0, k)) = (llLeft least done).map dIP := by
  unfold llLeft
  rw [List.filter_map, List.map_map, List.map_map]
  refine List.map_congr_left fun kv hkv => ?_
  have : gt least kv.1 = some kv.2 := mem_gt nd (List.mem_filter.mp hkv).1
  show dIP ((gt least kv.1).getD 0, kv.1) = dIP (kv.2, kv.1)
  rw [this]
  rfl
theorem eqv_nil (l : List (Int × Pr)) : PyData.eqv (toPy (.lst (l.map dIP))) (toPy (.lst [])) = l.isEmpty := by
  cases l with
  | nil => simp [toPy, toPys, PyData.eqv, PyData.eqvAll]
  | cons e r => simp [toPy, toPys, PyData.eqv, PyData.eqvAll]
end BR
/-! BrX17: the law's lengths. -/
namespace BR
open PySem PySem.Spec PyProof.Rows L2 PySem.W
theorem cpr_ip : Cpr dIP 2 := ⟨fun x => odr_ip.n x, fun x => by simp [dIP, toPy, toPys, PyData.canLay0, PyData.canLayAll0, cpr_pr.l], fun x => odr_ip.d x, fun x y => by
  have e := cpr_pr.e x.2 y.2
  simp only [dIP, toPy, toPys, PyData.eqv, PyData.eqvAll, Bool.and_eq_true, decide_eq_true_eq, e, and_true]
  exact ⟨fun h => Prod.ext (eq_of_beq h.1) h.2, fun h => by subst h; simp⟩⟩
theorem own_nd (cells : List Pr) (xs ys cols rows : List Int) : ((ownOf cells xs ys cols rows).map (·.1)).Nodup := by
  have h1 : ∀ (c : Pr) (x : Int) (l : List Int) (es : Own), (es.map (·.1)).Nodup → ((l.foldl (ownY xs ys c x) es).map (·.1)).Nodup := by
    intro c x l
    induction l with
    | nil => intro es h; exact h
    | cons y l ih =>
      intro es h
      rw [List.foldl_cons]
      refine ih _ ?_
      unfold ownY
      split
      · exact pt_nd h
      · exact h
  have h2 : ∀ (c : Pr) (l : List Int) (es : Own), (es.map (·.1)).Nodup → ((l.foldl (ownX xs ys rows c) es).map (·.1)).Nodup := by
    intro c l
    induction l with
    | nil => intro es h; exact h
    | cons y l ih =>
      intro es h
      rw [List.foldl_cons]
      exact ih _ (h1 c y rows es h)
  have h3 : ∀ (l : List Pr) (es : Own), (es.map (·.1)).Nodup → ((l.foldl (ownC xs ys cols rows) es).map (·.1)).Nodup := by
    intro l
    induction l with
    | nil => intro es h; exact h
    | cons y l ih =>
      intro es h
      rw [List.foldl_cons]
      exact ih _ (h2 y cols es h)
  exact h3 cells [] (by simp)
theorem lawLinks_keys (cols rows : List Int) (own : Own) : (lawLinks cols rows own).map (·.1) = own.map (·.1) := by
  unfold lawLinks
  rw [llX_keys, List.map_map]
  rfl
theorem lawLinks_closed (cols rows : List Int) (own : Own) : Closed (lawLinks cols rows own) := by
  have h0 : ∀ (h : Pr) (es : Tab) (q : Pr), Closed es → es.map (·.1) = own.map (·.1) → Closed (llStep own h es q) := fun h es q cl e kv hkv t ht => by
    rw [llStep_keys]
    unfold llStep at hkv
    split at hkv
    · rename_i hc
      rw [Bool.and_eq_true, Bool.and_eq_true, gt_some_iff, gt_some_iff, ← e] at hc
      rcases addTo_mem hkv ht with rfl | ⟨kv', h1, h2⟩
      · exact hc.2.1
      · rcases addTo_mem h1 h2 with rfl | ⟨kv'', h3, h4⟩
        · exact hc.2.2
        · exact cl kv'' h3 t h4
    · exact cl kv hkv t ht
  have h1 : ∀ (h : Pr) (l : List Pr) (es : Tab), Closed es → es.map (·.1) = own.map (·.1) → Closed (l.foldl (llStep own h) es) := by
    intro h l
    induction l with
    | nil => intro es c _; exact c
    | cons q l ih =>
      intro es c e
      rw [List.foldl_cons]
      exact ih _ (h0 h es q c e) (by rw [llStep_keys]; exact e)
  have h2 : ∀ (i : Nat) (x : Int) (l : List (Nat × Int)) (es : Tab), Closed es → es.map (·.1) = own.map (·.1) → Closed (l.foldl (llY own cols rows i x) es) := by
    intro i x l
    induction l with
    | nil => intro es c _; exact c
    | cons q l ih =>
      intro es c e
      rw [List.foldl_cons]
      exact ih _ (h1 _ _ _ c e) ((llP_keys ..).trans e)
  have h3 : ∀ (l : List (Nat × Int)) (es : Tab), Closed es → es.map (·.1) = own.map (·.1) → Closed (l.foldl (llX own cols rows) es) := by
    intro l
    induction l with
    | nil => intro es c _; exact c
    | cons q l ih =>
      intro es c e
      rw [List.foldl_cons]
      exact ih _ (h2 _ _ _ _ c e) ((llY_keys ..).trans e)
  refine h3 _ _ (fun kv hkv t ht => ?_) (by rw [List.map_map]; rfl)
  obtain ⟨k, _, rfl⟩ := List.mem_map.mp hkv
  cases ht
structure LenOk (cells : List Pr) (xs ys : List Int) (p q : Pr) : Prop where
  lc : LcOk cells xs ys
  st : p ∈ (lawTab cells xs ys p q).map (·.1)
section
variable {P : Program} {w : World} {K : PySem.W.Frag} {mg : Str → Option Value} {base : Heap} {C : Addr}
def rLLen : List Dt → Dt → Prop := fun ds d => ∃ (cells : List Pr) (xs ys : List Int) (p q : Pr), LenOk cells xs ys p q ∧ ds = [.lst (cells.map dPr), .lst (xs.map Dt.int), .lst (ys.map Dt.int), dPr p, dPr q] ∧ d = dOI (lawLen cells xs ys p q)
theorem c_law_length {f : Addr} {fd : FuncData} (F : Fun K "_law_length" "_law_length" s_law_length f fd) (hm : mg "_law_length" = some (.ref f)) (B : NB mg) (cC : CalD P w K mg base C 1 "_law_crossings" rLCross) (cL : CalD P w K mg base C 1 "_law_links" rLLinks) : CalD P w K mg base C 2 "_law_length" rLLen :=
  calD F sc_law_length hm (fun _ _ _ _ _ _ us hl => match us, hl with | [_, _, _, _, _], _ => rfl) (by rintro ds d ⟨_, _, _, _, _, _, rfl, _⟩; rfl) fun cdv A outer s H E ds d hr h => by
    obtain ⟨cells, xs, ys, p, q, ok, rfl, rfl⟩ := h
    have lx := lcRaw_len (a := p.1) (b := q.1) ok.lc.lx
    have ly := lcRaw_len (a := p.2) (b := q.2) ok.lc.ly
    have mX : (lawCols xs p q).length ≤ 42 := Nat.le_trans (sortU_len fun k h => h) lx
    have mY : (lawRows ys p q).length ≤ 42 := Nat.le_trans (sortU_len fun k h => h) ly
    have lo : (ownOf cells xs ys (lawCols xs p q) (lawRows ys p q)).length ≤ 44100 := by
      have := ownC_len xs ys (lawCols xs p q) (lawRows ys p q) cells []
      unfold ownOf
      have h2 : cells.length * ((lawCols xs p q).length * (lawRows ys p q).length) ≤ 25 * (42 * 42) := Nat.mul_le_mul ok.lc.l (Nat.mul_le_mul mX mY)
      simp only [List.length_nil] at this
      omega
    have st := ok.st
    have cl := lawLinks_closed (lawCols xs p q) (lawRows ys p q) (ownOf cells xs ys (lawCols xs p q) (lawRows ys p q))
    have nd := own_nd cells xs ys (lawCols xs p q) (lawRows ys p q)
    have ek := lawLinks_keys (lawCols xs p q) (lawRows ys p q) (ownOf cells xs ys (lawCols xs p q) (lawRows ys p q))
    have lcok := ok.lc
    clear ok lx ly
    unfold lawLen
    unfold lawTab at st ⊢
    refine sds_cons (sd_asg (ev_call cC hr (ea_cons (ev_v 0) (ea_cons (ev_v 1) (ea_cons (ev_v 2) (ea_cons (ev_v 3) (ea_cons (ev_v 4) ea_nil))))) ⟨cells, xs, ys, p, q, lcok, rfl, rfl⟩) (eg_l (egs_cons (eg_n 5 sc_law_length.nd) (egs_cons (eg_n 6 sc_law_length.nd) (egs_cons (eg_n 7 sc_law_length.nd) egs_nil)))) rfl ?_)
    show SDs _ _ _ [some (.lst (cells.map dPr)), some (.lst (xs.map Dt.int)), some (.lst (ys.map Dt.int)), some (dPr p), some (dPr q), some (.lst ((lawCols xs p q).map Dt.int)), some (.lst ((lawRows ys p q).map Dt.int)), some (lD Dt.bl (ownOf cells xs ys (lawCols xs p q) (lawRows ys p q))), none, none, none, none, none, none, none, none, none] _ _
    generalize lawCols xs p q = cols at *
    generalize lawRows ys p q = rows at *
    generalize ownOf cells xs ys cols rows = own at *
    refine sds_cons (sd_asgK (ek_tup (eka_cons (ek_p (ev_call cL hr (ea_cons (ev_v 5) (ea_cons (ev_v 6) (ea_cons (ev_v 7) ea_nil))) ⟨cols, rows, own, ⟨mX, mY, by omega, nd⟩, rfl, rfl⟩) (eka_cons (ek_disp1 (enc := Dt.int) (b := (0 : Int)) hr (ev_v 3) ev_int fun pl => (eka_cons (ek_d0 fun pd => (eka_nil ⟨Nat.le_of_ble_eq_true rfl, _, rfl, ?_⟩)))))))) (eg_t (egs_cons (eg_n 8 sc_law_length.nd) (egs_cons (eg_n 9 sc_law_length.nd) (egs_cons (eg_n 10 sc_law_length.nd) egs_nil)))))
    have el : (lawLinks cols rows own).length ≤ 44100 := by
      have := congrArg List.length ek
      rw [List.length_map, List.length_map] at this
      omega
    have ndE : ((lawLinks cols rows own).map (·.1)).Nodup := by rw [ek]; exact nd
    generalize lawLinks cols rows own = es at *
    show SDs _ _ _ [some (.lst (cells.map dPr)), some (.lst (xs.map Dt.int)), some (.lst (ys.map Dt.int)), some (dPr p), some (dPr q), some (.lst (cols.map Dt.int)), some (.lst (rows.map Dt.int)), some (lD Dt.bl own), some (dTab es), some (.ref pl), some (.ref pd), none, none, none, none, none, none] [(pl, dD Dt.int [(p, (0 : Int))]), (pd, dD Dt.bl [])] _
    generalize hres : llGo es q (es.length + 1) [(p, 0)] [] = res
    refine sds_cons (sd_while (fun m ρ1 M1 => ∃ (least : Lst) (done : Own), LI es p least done ∧ m + done.length = es.length + 1 ∧ llGo es q m least done = res ∧ ρ1 = [some (.lst (cells.map dPr)), some (.lst (xs.map Dt.int)), some (.lst (ys.map Dt.int)), some (dPr p), some (dPr q), some (.lst (cols.map Dt.int)), some (.lst (rows.map Dt.int)), some (lD Dt.bl own), some (dTab es), some (.ref pl), some (.ref pd), none, none, none, none, none, none] ∧ M1 = [(pl, dD Dt.int least), (pd, dD Dt.bl done)]) (es.length + 1) ⟨_, _, LI.start st, rfl, hres, rfl, rfl⟩ ?_)
    rintro m ρ1 M1 ⟨least, done, I, hm', hgo, rfl, rfl⟩
    have hlen := I.len
    refine ⟨!(gt done q).isSome, et_view 1 10 (p := pd) (d0 := dD Dt.bl done) (et_notinD hr (ev_v 4) (ev_v 10)), fun hk => ?_, fun hk => ?_⟩
    · have hk' : (gt done q).isSome = false := by
        cases hq : (gt done q).isSome with
        | false => rfl
        | true => rw [hq] at hk; cases hk
      obtain ⟨m, rfl⟩ : ∃ m', m = m' + 1 := ⟨m - 1, by omega⟩
      unfold llGo at hgo
      rw [if_neg (by rw [hk']; exact Bool.false_ne_true)] at hgo
      refine sds_cons (sd_setCL 0 9 11 (p := pl) (ks := least.map fun kv => kP kv.1) (es := least.map fun kv => Dt.int kv.2) (ds := (llLeft least done).map dIP) ?_ ?_ (noLs_map (fun _ => rfl) _))
      · rw [← left_map I.ndl]
        have key := @el_lc1f
        refine key (α := Pr) (enc := dPr) (own := [("_law_place", 16)]) (st := stN 16) (sl := [16]) (xs := least.map (·.1)) (p := fun k => !(gt done k).isSome) (f := fun k => dIP ((gt least k).getD 0, k)) ?_ ?_ ?_ ?_ ?_ ?_ ?_ ?_ ?_
        · exact ei_keys (enc := Dt.int) (es := least) (ev_v 9)
        · exact eb_n 16 sc_law_length.nd
        · refine fun k hk => ⟨[some (.lst (cells.map dPr)), some (.lst (xs.map Dt.int)), some (.lst (ys.map Dt.int)), some (dPr p), some (dPr q), some (.lst (cols.map Dt.int)), some (.lst (rows.map Dt.int)), some (lD Dt.bl own), some (dTab es), some (lD Dt.int least), some (.ref pd), none, none, none, none, none, some (dPr k)], rfl, fun _ _ _ _ _ => ?_, fun _ => fun _ _ _ _ _ => ?_⟩
          · exact et_view 0 10 (p := pd) (d0 := dD Dt.bl done) (et_notinD hr (ev_v 16) (ev_v 10))
          · obtain ⟨v, hv⟩ := Option.isSome_iff_exists.mp (gt_some_iff.mpr hk)
            rw [hv]
            exact ev_tup (ea_cons (ev_getD (enc := Dt.int) hr (ev_unl (es := least) (ev_v 9)) (ev_v 16) hv) (ea_cons (ev_v 16) ea_nil))
        · rw [List.length_map]; omega
        · exact sc_law_length.nd
        · exact blkOk_by (N := n_law_length) (sc := defScope s_law_length) (by decide +kernel)
        · decide
        · rfl
        · intro _; rfl
      show SDs _ _ _ [some (.lst (cells.map dPr)), some (.lst (xs.map Dt.int)), some (.lst (ys.map Dt.int)), some (dPr p), some (dPr q), some (.lst (cols.map Dt.int)), some (.lst (rows.map Dt.int)), some (lD Dt.bl own), some (dTab es), some (.ref pl), some (.ref pd), some (.lst ((llLeft least done).map dIP)), none, none, none, none, none] [(pl, dD Dt.int least), (pd, dD Dt.bl done)] _
      refine sds_cons (sd_if (k := decide (llLeft least done = [])) (et_eqX (x := llLeft least done) (y := []) cpr_ip.lst hr (ev_v 11) (ev_new (en_lst ea_nil))) (fun he => ?_) fun he => ?_)
      · have : llLeft least done = [] := of_decide_eq_true he
        rw [this] at hgo
        rw [← hgo]
        exact sds_cons (sd_ret ev_non rfl)
      · cases hl : llLeft least done with
        | nil => exact absurd hl (of_decide_eq_false he)
        | cons e r =>
          rw [hl] at hgo
          obtain ⟨hn1, hn2⟩ := I.next cl hl
          obtain ⟨hme, _⟩ := minE_spec (r := r) (m := e)
          rw [← hl] at hme
          obtain ⟨g1, g2⟩ := (mem_left I.ndl).mp hme
          refine sds_nil ?_
          refine sds_cons (sd_asg (d := dIP (minE e r)) (Ev.cast (ev_callB (cr_minLD rfl hr.units) (cd_minLX odr_ip dIP_inj) (ea_cons (ev_v 11) ea_nil) (B.h _ (by decide))) (by rw [minBy_E])) (eg_t (egs_cons (eg_n 12 sc_law_length.nd) (egs_cons (eg_n 13 sc_law_length.nd) egs_nil))) rfl ?_)
          dsimp only at hgo
          unfold llNext at hn1 hn2
          dsimp only at hn1 hn2
          generalize minE e r = mm at *
          obtain ⟨far, here⟩ := mm
          dsimp only at hgo hn1 hn2 g1 g2
          show SDs _ _ _ [some (.lst (cells.map dPr)), some (.lst (xs.map Dt.int)), some (.lst (ys.map Dt.int)), some (dPr p), some (dPr q), some (.lst (cols.map Dt.int)), some (.lst (rows.map Dt.int)), some (lD Dt.bl own), some (dTab es), some (.ref pl), some (.ref pd), some (.lst ((e :: r).map dIP)), some (.int far), some (dPr here), none, none, none] [(pl, dD Dt.int least), (pd, dD Dt.bl done)] _
          refine sds_cons (sd_putD 1 (enc := Dt.bl) (b := true) (es := done) (p := here) hr (ev_v 10) (ev_v 13) ev_bl rfl (by omega) ?_)
          have hke : here ∈ es.map (·.1) := I.kl _ (gt_some_iff.mp (by rw [g1]; rfl))
          show SDs _ _ _ [some (.lst (cells.map dPr)), some (.lst (xs.map Dt.int)), some (.lst (ys.map Dt.int)), some (dPr p), some (dPr q), some (.lst (cols.map Dt.int)), some (.lst (rows.map Dt.int)), some (lD Dt.bl own), some (dTab es), some (.ref pl), some (.ref pd), some (.lst ((e :: r).map dIP)), some (.int far), some (dPr here), none, none, none] [(pl, dD Dt.int least), (pd, dD Dt.bl (pt done here true))] _
          refine sds_cons (sd_forS (xs := nbrs es here) (enc := dPr) (ei_lst (ev_getD (enc := fun l : List Pr => Dt.lst (l.map dPr)) hr (ev_v 8) (ev_v 13) (gt_nbrs hke))) (eg_n 14 sc_law_length.nd) (fun _ => [some (.lst (cells.map dPr)), some (.lst (xs.map Dt.int)), some (.lst (ys.map Dt.int)), some (dPr p), some (dPr q), some (.lst (cols.map Dt.int)), some (.lst (rows.map Dt.int)), some (lD Dt.bl own), some (dTab es), some (.ref pl), some (.ref pd), none, some (.int far), some (dPr here), none, none, none]) (fun pre => [(pl, dD Dt.int (pre.foldl (llRelax far here) least)), (pd, dD Dt.bl (pt done here true))]) (by repeat (first | exact Le.nil | apply Le.some | apply Le.none)) rfl (fun pre t post epre => ⟨[some (.lst (cells.map dPr)), some (.lst (xs.map Dt.int)), some (.lst (ys.map Dt.int)), some (dPr p), some (dPr q), some (.lst (cols.map Dt.int)), some (.lst (rows.map Dt.int)), some (lD Dt.bl own), some (dTab es), some (.ref pl), some (.ref pd), none, some (.int far), some (dPr here), some (dPr t), none, none], rfl, ?_⟩) ?_)
          · have l1 : (pre.foldl (llRelax far here) least).length ≤ es.length := by
              obtain ⟨r1, r2, _⟩ := relax_fold (far := far) (here := here) pre least I.ndl
              have := nd_len r1 (B := es.map (·.1)) fun k hk => by
                rcases (r2 k).mp hk with h | h
                · exact I.kl k h
                · obtain ⟨kv, k1, k2⟩ := nbrs_mem (es := es) (k := here) (t := k) (by rw [epre]; exact List.mem_append_left _ h)
                  exact cl kv k1 k k2
              rw [List.length_map, List.length_map] at this
              exact this
            rw [List.foldl_append (l' := [t])]
            generalize pre.foldl (llRelax far here) least = l0 at l1
            refine sds_cons (sd_set 15 (ev_add (ev_add (ev_v 12) (ev_callB call_abs cd_abs (ea_cons (ev_sub (ev_ixT (ev_v 14) ev_int) (ev_ixT (ev_v 13) ev_int)) ea_nil) (B.h _ (by decide)))) (ev_callB call_abs cd_abs (ea_cons (ev_sub (ev_ixT (ev_v 14) ev_int) (ev_ixT (ev_v 13) ev_int)) ea_nil) (B.h _ (by decide)))) ?_ sc_law_length.nd)
            show SDs _ _ _ [some (.lst (cells.map dPr)), some (.lst (xs.map Dt.int)), some (.lst (ys.map Dt.int)), some (dPr p), some (dPr q), some (.lst (cols.map Dt.int)), some (.lst (rows.map Dt.int)), some (lD Dt.bl own), some (dTab es), some (.ref pl), some (.ref pd), none, some (.int far), some (dPr here), some (dPr t), some (.int (far + absI (t.1 - here.1) + absI (t.2 - here.2))), none] [(pl, dD Dt.int l0), (pd, dD Dt.bl (pt done here true))] _
            refine sds_cons (sd_putD 0 (enc := Dt.int) (es := l0) (p := t) hr (ev_v 9) (ev_v 14) (ev_view 0 9 (p := pl) (d0 := dD Dt.int l0) (ev_callB (call_min2 rfl) cd_min2 (ea_cons (ev_v 15) (ea_cons (ev_getDD (enc := Dt.int) (es := l0) (p := t) (b := far + absI (t.1 - here.1) + absI (t.2 - here.2)) hr (ev_v 9) (ev_v 14) (ev_v 15)) ea_nil)) (B.h _ (by decide)))) rfl (by omega) (sds_nil ?_))
            exact nx_of rfl
          · refine sds_nil ⟨m, [some (.lst (cells.map dPr)), some (.lst (xs.map Dt.int)), some (.lst (ys.map Dt.int)), some (dPr p), some (dPr q), some (.lst (cols.map Dt.int)), some (.lst (rows.map Dt.int)), some (lD Dt.bl own), some (dTab es), some (.ref pl), some (.ref pd), none, none, none, none, none, none], Nat.lt_succ_self m, by repeat (first | exact Le.nil | apply Le.some | apply Le.none), _, _, hn1, by rw [hn2]; omega, hgo, rfl, rfl⟩
    · have hk' : (gt done q).isSome = true := by
        cases hq : (gt done q).isSome with
        | true => rfl
        | false => rw [hq] at hk; cases hk
      obtain ⟨m, rfl⟩ : ∃ m', m = m' + 1 := ⟨m - 1, by omega⟩
      unfold llGo at hgo
      rw [if_pos hk'] at hgo
      obtain ⟨d, hd, _⟩ := I.goal hk'
      rw [hd] at hgo
      rw [← hgo]
      exact sds_cons (sd_ret (ev_view 0 9 (p := pl) (d0 := dD Dt.int least) (ev_getD (enc := Dt.int) hr (ev_v 9) (ev_v 4) hd)) rfl)
end
end BR
/-! BrX18: the law's moves. -/
namespace BR
open PySem PySem.Spec PyProof.Rows L2
section
variable {X : Cx} {C : Addr} {ρ : DE} {M : Mem} {a b : Expr} {pos : Pos}
theorem ev_eqOI {x y : Option Int} (ha : Ev X C ρ M a (dOI x)) (hb : Ev X C ρ M b (dOI y)) : Ev X C ρ M (.Compare a [.Eq] [b] pos) (.bl (decide (x = y))) := by
  cases x with
  | none => cases y with
    | none => exact Ev.cast (ev_cmp op_eq (od_eqS (C := C) (d1 := .non) (d2 := .non) rfl rfl rfl) ha hb (nomark _)) (by simp)
    | some j => exact Ev.cast (ev_cmp op_eq (od_eqS (C := C) (d1 := .non) (d2 := .int j) rfl rfl rfl) ha hb (nomark _)) (by simp)
  | some i => cases y with
    | none => exact Ev.cast (ev_cmp op_eq (od_eqS (C := C) (d1 := .int i) (d2 := .non) rfl rfl rfl) ha hb (nomark _)) (by simp)
    | some j => exact Ev.cast (ev_cmp op_eq (od_eqS (C := C) (d1 := .int i) (d2 := .int j) rfl rfl rfl) ha hb (nomark _)) (by simp)
end
def mvB (c t : Int) : Box → Box := if c = 0 then shiftB t (0 - 5) else if c = 1 then mirB else turnB
def mvP (c t : Int) (p : Pr) : Pr := if c = 0 then (p.1 + t, p.2 - 5) else if c = 1 then (0 - p.1 - 1, p.2) else (0 - p.2 - 1, p.1)
def mvT (p : Pool) : Int := takeV p 9 * 10000000000000000000000000000
def mvC (p : Pool) : Int := takeV (takeS p 9) 3
def mvBs (p : Pool) (f : Form) : List Box := (boxesOf f).map (mvB (mvC p) (mvT p))
def mvRight (p : Pool) (f : Form) (s g : Pr) (due : Option Int) : Bool := decide (wayLen (slabsOf (mvBs p f)) false (mvP (mvC p) (mvT p) s) (mvP (mvC p) (mvT p) g) = due)
structure MovOk (p : Pool) (f : Form) (s g : Pr) : Prop where
  po : PoolOk p
  sl : SlabOk (mvBs p f)
  wy : WayOk (slabsOf (mvBs p f)) false (mvP (mvC p) (mvT p) s) (mvP (mvC p) (mvT p) g)
section
variable {P : Program} {w : World} {K : PySem.W.Frag} {mg : Str → Option Value} {base : Heap} {C : Addr}
def rMovR : List Dt → List Dt → Dt → List Dt → Prop := fun ds es d ds' => ∃ (p : Pool) (f : Form) (s g : Pr) (due : Option Int), MovOk p f s g ∧ ds = dPool p ∧ es = [.reg (dForm f) false, dPr s, dPr g, dOI due] ∧ d = .bl (mvRight p f s g due) ∧ ds' = dPool (takeS (takeS p 9) 3)
theorem c_law_moved_right {f : Addr} {fd : FuncData} (F : Fun K "_law_moved_right" "_law_moved_right" s_law_moved_right f fd) (hm : mg "_law_moved_right" = some (.ref f)) (cT : CalM P w K mg base C 1 "_law_take" rTakeP) (cW : CalD P w K mg base C 7 "way_length" rWay) (cS : CalD P w K mg base C 4 "shifted" rShifted) (cM : CalD P w K mg base C 4 "mirrored" rMir) (cU : CalD P w K mg base C 4 "turned" rTurn) : CalM P w K mg base C 8 "_law_moved_right" rMovR :=
  calM F sc_law_moved_right hm (fun _ _ _ _ _ _ us hl => match us, hl with | [_, _, _, _, _], _ => rfl) (by rintro ds es d ds' ⟨p, _, _, _, _, _, _, rfl, _⟩; rfl) fun cdv A outer st H E q ds es d ds' hr h => by
    obtain ⟨p, f, s, g, due, ok, rfl, rfl, rfl, rfl⟩ := h
    have ok1 := takeS_ok (m := 9) ok.po (by decide)
    have v9 := takeV_ok (p := p) (m := 9) (by decide)
    have v3 := takeV_ok (p := takeS p 9) (m := 3) (by decide)
    have e28 : ((10 : Int) ^ Int.toNat 28) = 10000000000000000000000000000 := by decide
    refine sds_cons (sd_asgK (ek_tup (eka_cons (ek_op op_mul (ek_callM cT hr (eka_p (ea_cons (ev_v 0) (ea_cons ev_int ea_nil)) ⟨q, 0, dPool p, [.int 9], _, _, rfl, rfl, ⟨p, 9, ok.po, by decide, by decide, rfl, rfl, rfl, rfl⟩, ?_⟩))))) (eg_t (egs_cons (eg_n 5 sc_law_moved_right.nd) (egs_cons (eg_n 6 sc_law_moved_right.nd) egs_nil))))
    refine ek_p (Ev.cast (ev_pow ev_int ev_int ⟨by decide, by decide, by decide⟩) (congrArg Dt.int e28)) ⟨_, od_IC (fun _ => .int _) (.inl ⟨by omega, by omega⟩), ?_⟩
    refine eka_cons (ek_callM cT hr (eka_p (ea_cons (ev_v 0) (ea_cons ev_int ea_nil)) ⟨q, 0, dPool (takeS p 9), [.int 3], _, _, rfl, rfl, ⟨takeS p 9, 3, ok1, by decide, by decide, rfl, rfl, rfl, rfl⟩, (eka_nil ⟨Nat.le_of_ble_eq_true rfl, _, rfl, ?_⟩)⟩))
    show SDs _ _ _ [some (.ref q), some (.reg (dForm f) false), some (dPr s), some (dPr g), some (dOI due), some (.int (mvT p)), some (.int (mvC p)), none, none, none] [(q, .lst (dPool (takeS (takeS p 9) 3)))] _
    have hc : mvC p = 0 ∨ mvC p = 1 ∨ mvC p = 2 := by unfold mvC; omega
    have hsl := ok.sl
    have hwy := ok.wy
    unfold mvRight
    unfold mvBs at hsl hwy ⊢
    generalize mvT p = t at *
    generalize mvC p = c at *
    rcases hc with rfl | rfl | rfl
    · refine sds_cons (sd_if (et_eqI (ev_v 6) ev_int) (fun _ => ?_) fun hb => absurd hb (by decide))
      refine sds_cons (sd_setC 7 (el_lc1 (own := [("_law_x", 8), ("_law_y", 9)]) (xs := [s, g]) (enc := dPr) (f := fun p => dPr (mvP 0 t p)) (ei_lst (ev_new (en_lst (ea_cons (ev_v 2) (ea_cons (ev_v 3) ea_nil))))) (eb_t (egs_cons (eb_n 8 sc_law_moved_right.nd) (egs_cons (eb_n 9 sc_law_moved_right.nd) egs_nil)))
        (fun r hr => ⟨[some (.ref q), some (.reg (dForm f) false), some (dPr s), some (dPr g), some (dOI due), some (.int t), some (.int 0), none, some (.int r.1), some (.int r.2)], rfl, fun _ _ _ _ _ => ev_tup (ea_cons (ev_add (ev_v 8) (ev_v 5)) (ea_cons (ev_sub (ev_v 9) ev_int) ea_nil))⟩) (Nat.le_of_ble_eq_true rfl) sc_law_moved_right.nd (blkOk_by (N := n_law_moved_right) (sc := defScope s_law_moved_right) (by decide +kernel))) ?_)
      exact sds_cons (sd_ret (ev_eqOI (ev_call cW hr (ea_cons (ev_call cS hr (ea_cons (ev_v 1) (ea_cons (ev_v 5) (ea_cons (ev_sub ev_int ev_int) ea_nil))) ⟨f, false, t, 0 - 5, hsl, rfl, rfl⟩) (ea_cons (ev_ixL (d := dPr (mvP 0 t s)) (ev_v 7) ev_int rfl) (ea_cons (ev_ixL (d := dPr (mvP 0 t g)) (ev_v 7) ev_int rfl) ea_nil))) ⟨_, false, _, _, hwy, rfl, rfl⟩) (ev_v 4)) ⟨rfl, 0, rfl⟩)
    · refine sds_cons (sd_if (et_eqI (ev_v 6) ev_int) (fun hb => absurd hb (by decide)) fun _ => sds_nil ?_)
      refine sds_cons (sd_if (et_eqI (ev_v 6) ev_int) (fun _ => ?_) fun hb => absurd hb (by decide))
      refine sds_cons (sd_setC 7 (el_lc1 (own := [("_law_x", 8), ("_law_y", 9)]) (xs := [s, g]) (enc := dPr) (f := fun p => dPr (mvP 1 t p)) (ei_lst (ev_new (en_lst (ea_cons (ev_v 2) (ea_cons (ev_v 3) ea_nil))))) (eb_t (egs_cons (eb_n 8 sc_law_moved_right.nd) (egs_cons (eb_n 9 sc_law_moved_right.nd) egs_nil)))
        (fun r hr => ⟨[some (.ref q), some (.reg (dForm f) false), some (dPr s), some (dPr g), some (dOI due), some (.int t), some (.int 1), none, some (.int r.1), some (.int r.2)], rfl, fun _ _ _ _ _ => ev_tup (ea_cons (ev_sub (ev_sub ev_int (ev_v 8)) ev_int) (ea_cons (ev_v 9) ea_nil))⟩) (Nat.le_of_ble_eq_true rfl) sc_law_moved_right.nd (blkOk_by (N := n_law_moved_right) (sc := defScope s_law_moved_right) (by decide +kernel))) ?_)
      exact sds_cons (sd_ret (ev_eqOI (ev_call cW hr (ea_cons (ev_call cM hr (ea_cons (ev_v 1) ea_nil) ⟨f, false, hsl, rfl, rfl⟩) (ea_cons (ev_ixL (d := dPr (mvP 1 t s)) (ev_v 7) ev_int rfl) (ea_cons (ev_ixL (d := dPr (mvP 1 t g)) (ev_v 7) ev_int rfl) ea_nil))) ⟨_, false, _, _, hwy, rfl, rfl⟩) (ev_v 4)) ⟨rfl, 0, rfl⟩)
    · refine sds_cons (sd_if (et_eqI (ev_v 6) ev_int) (fun hb => absurd hb (by decide)) fun _ => sds_nil ?_)
      refine sds_cons (sd_if (et_eqI (ev_v 6) ev_int) (fun hb => absurd hb (by decide)) fun _ => sds_nil ?_)
      refine sds_cons (sd_setC 7 (el_lc1 (own := [("_law_x", 8), ("_law_y", 9)]) (xs := [s, g]) (enc := dPr) (f := fun p => dPr (mvP 2 t p)) (ei_lst (ev_new (en_lst (ea_cons (ev_v 2) (ea_cons (ev_v 3) ea_nil))))) (eb_t (egs_cons (eb_n 8 sc_law_moved_right.nd) (egs_cons (eb_n 9 sc_law_moved_right.nd) egs_nil)))
        (fun r hr => ⟨[some (.ref q), some (.reg (dForm f) false), some (dPr s), some (dPr g), some (dOI due), some (.int t), some (.int 2), none, some (.int r.1), some (.int r.2)], rfl, fun _ _ _ _ _ => ev_tup (ea_cons (ev_sub (ev_sub ev_int (ev_v 9)) ev_int) (ea_cons (ev_v 8) ea_nil))⟩) (Nat.le_of_ble_eq_true rfl) sc_law_moved_right.nd (blkOk_by (N := n_law_moved_right) (sc := defScope s_law_moved_right) (by decide +kernel))) ?_)
      exact sds_cons (sd_ret (ev_eqOI (ev_call cW hr (ea_cons (ev_call cU hr (ea_cons (ev_v 1) ea_nil) ⟨f, false, hsl, rfl, rfl⟩) (ea_cons (ev_ixL (d := dPr (mvP 2 t s)) (ev_v 7) ev_int rfl) (ea_cons (ev_ixL (d := dPr (mvP 2 t g)) (ev_v 7) ev_int rfl) ea_nil))) ⟨_, false, _, _, hwy, rfl, rfl⟩) (ev_v 4)) ⟨rfl, 0, rfl⟩)
end
end BR
/-! BrX19: sorted(set(pairs)); repr; a dict keyed by pairs of squares. -/
namespace BR
open PySem PySem.Spec PyProof.Rows L2
/-! ### repr -/
def reprT : Option Int → PySem.Str
  | none => "None"
  | some i => toString i
theorem call_repr_oi {X : Cx} : CallR X (.builtin "repr") (fun xs H Q => ∃ x : Option Int, xs = [vOI x] ∧ (∀ i, x = some i → i.natAbs.log2 < 1920) ∧ Q (.str (reprT x)) H) := by
  intro pins s σ H xs us Q I r h
  obtain ⟨x, rfl, hz, q⟩ := h
  cases x with
  | none =>
    obtain ⟨u, rfl, ru⟩ := vals1 r
    cases (show u = Value.none from ru)
    exact PySem.P.repr_of_none ⟨.str _, H, I.tok _, ⟨_, rfl⟩, q⟩
  | some i =>
    obtain ⟨u, rfl, t, rfl⟩ := vals1 r
    exact PySem.P.repr_of_int (hz i rfl) ⟨.str _, H, I.tok _, ⟨_, rfl⟩, q⟩
theorem Rp.inj_oi {C : Addr} {F : Hp} {v : V} {x : Option Int} (h : Rp C F v (dOI x)) : v = vOI x := by
  cases x with
  | none => exact h.inj_non
  | some i => exact h.inj_int
theorem rp_oi {C : Addr} {F : Hp} (x : Option Int) : Rp C F (vOI x) (dOI x) := by
  cases x with
  | none => exact .non
  | some i => exact .int i
theorem cd_repr {C : Addr} {x : Option Int} (h : ∀ i, x = some i → i.natAbs.log2 < 1920) : CD C (fun xs H Q => ∃ x : Option Int, xs = [vOI x] ∧ (∀ i, x = some i → i.natAbs.log2 < 1920) ∧ Q (.str (reprT x)) H) [dOI x] (.str (reprT x)) := fun xs F H Q e r q => by
  obtain ⟨v, rfl, r1⟩ := r.one
  exact ⟨x, by rw [r1.inj_oi], h, q _ F H (.refl e) (.str _)⟩
/-! ### sorted(set(pairs)) -/
def prOf (l : List Int) : Pr := (l.getD 0 0, l.getD 1 0)
theorem keys_of {C : Addr} {F : Hp} : ∀ {ns : List Pr} {xs : List V}, RpAll C F xs (ns.map dPr) → ∃ ks : List (Addr × List Int), xs = ks.map (fun p => V.ref p.1) ∧ ks.map (·.2) = ns.map (fun p => [p.1, p.2]) ∧ ∀ p ∈ ks, F p.1 = some (.tup (p.2.map V.int))
  | [], xs, r => by
    rw [List.map_nil] at r
    rw [r.nil_inv]
    exact ⟨[], rfl, rfl, fun _ h => by cases h⟩
  | n :: ns, xs, r => by
    rw [List.map_cons] at r
    obtain ⟨v, vs, rfl, rv, rs⟩ := r.cons_inv
    obtain ⟨ks, rfl, h2, h3⟩ := keys_of rs
    obtain ⟨t, ys, rfl, ht, ra⟩ := rv.inj_tup
    obtain ⟨a, b, rfl, r1, r2⟩ := ra.two
    rw [r1.inj_int, r2.inj_int] at ht
    refine ⟨(t, [n.1, n.2]) :: ks, rfl, by rw [List.map_cons, List.map_cons, h2], fun p hp => ?_⟩
    rcases List.mem_cons.mp hp with rfl | hp
    · exact ht
    · exact h3 p hp
theorem rp_prs {C : Addr} {F : Hp} : ∀ {l : List (Addr × List Int)}, (∀ p ∈ l, ∃ z : Pr, p.2 = [z.1, z.2] ∧ F p.1 = some (.tup [.int z.1, .int z.2])) → RpAll C F (l.map fun q => V.ref q.1) ((l.map fun q => prOf q.2).map dPr)
  | [], _ => .nil
  | p :: l, h => by
    obtain ⟨z, e1, e2⟩ := h p List.mem_cons_self
    refine .cons ?_ (rp_prs fun q hq => h q (List.mem_cons_of_mem _ hq))
    show Rp C F (.ref p.1) (dPr (prOf p.2))
    rw [e1]
    exact .tup e2 (.cons (.int _) (.cons (.int _) .nil))
section
variable {X : Cx} {C : Addr} {ρ : DE} {M : Mem} {P : Po} {e i o : Expr} {d : Dt} {ds : List Dt} {pos pos' p1 p2 p3 p4 : Pos}
theorem en_sortedSetP {n : Nat} {ns : List Pr} (hr : Room n X.A) (he : Ev X C ρ M e (.lst (ns.map dPr))) (hn : ns.length < 64) (hb : ∀ p ∈ ns, (0 ≤ p.1 ∧ p.1 < 64) ∧ (0 ≤ p.2 ∧ p.2 < 64)) (hm0 : X.mg "sorted" = none) (hm1 : X.mg "set" = none) (hc : X.calm = true := by rfl) (hg0 : Gl X "sorted" := by rfl) (hg1 : Gl X "set" := by rfl)
    (h1 : starEach [.Call (.Name "set" p1) [e] [] p2] X.env = (false, eval (.Call (.Name "set" p1) [e] [] p2) X.env) :: starEach [] X.env := by rfl) (h2 : starEach [e] X.env = (false, eval e X.env) :: starEach [] X.env := by rfl)
    (hp1 : (backTo p4 (starEach [] X.env)).any (·.1) = false := by rfl) (hp2 : (backTo p2 (starEach [] X.env)).any (·.1) = false := by rfl) :
    EvN X C ρ M (.Call (.Name "sorted" p3) [.Call (.Name "set" p1) [e] [] p2] [] p4) ((sortPU ns).map dPr) :=
  PE.imp (pe_callB (cr_sortedT hc) hg0 hm0 (by decide +kernel) (pa_cons (pe_callTy (cr_setOfT hc hr.units) hg1 hm1 (by decide +kernel) (pa_cons he pa_nil h2) (by decide) (by decide) h2 hp2) pa_nil h1) (by decide) (by decide) h1 hp1) fun σ H Q ⟨F, I, q⟩ => ⟨F, I, fun v F1 H1 e1 r1 => by
    have I1 := I.ext e1
    obtain ⟨a, xs, rfl, ha, rx⟩ := r1.inj_lst
    obtain ⟨ks, rfl, hk2, hkF⟩ := keys_of rx
    have hlen : ks.length = ns.length := by
      have := congrArg List.length hk2
      rwa [List.length_map, List.length_map] at this
    refine ⟨a, ks, rfl, .inl (.inl (I1.fh _ _ ha)), fun p hp => .inl (.inl (I1.fh _ _ (hkF p hp))), by rw [hlen]; exact hn, fun s L hs hsub hall => ?_⟩
    have e2 : Ext F1 H1 F1 (upd H1 s (SetTO X.prog X.w s L)) := .newH I1.fh hs
    refine ⟨s, L, 2, 64, rfl, upd_same, fun p hp => .inl (.inl (e2.fh _ _ (hkF p (hsub p hp)))), by decide, fun p hp => ?_, fun L' t pm nd hl pw ht => ?_⟩
    · have : p.2 ∈ ns.map (fun p => [p.1, p.2]) := by rw [← hk2]; exact List.mem_map.mpr ⟨p, hsub p hp, rfl⟩
      obtain ⟨z, hz, ez⟩ := List.mem_map.mp this
      obtain ⟨b1, b2⟩ := hb z hz
      rw [← ez]
      refine ⟨rfl, fun m hm => ?_⟩
      rcases List.mem_cons.mp hm with rfl | hm
      · exact b1
      · rw [List.mem_singleton.mp hm]; exact b2
    have e3 := e2.trans (.newH (o := .lst (L'.map fun q => V.ref q.1)) e2.fh ht)
    have form : ∀ p ∈ L', ∃ z ∈ ns, p.2 = [z.1, z.2] := fun p hp => by
      have : p.2 ∈ ns.map (fun p => [p.1, p.2]) := by rw [← hk2]; exact List.mem_map.mpr ⟨p, hsub p (pm.mem_iff.mp hp), rfl⟩
      obtain ⟨z, hz, ez⟩ := List.mem_map.mp this
      exact ⟨z, hz, ez.symm⟩
    have eL : L'.map (fun q => prOf q.2) = sortPU ns := by
      refine riseP_eq ?_ sortPU_pw fun k => ?_
      · have hboth : L'.Pairwise (fun q r => TS.code 64 q.2 ≤ TS.code 64 r.2 ∧ q.2 ≠ r.2) := by
          have nd' := List.pairwise_map.mp nd
          exact pw.and nd'
        refine List.pairwise_map.mpr (List.Pairwise.imp_of_mem (fun {q r} hq hr' h => ?_) hboth)
        obtain ⟨z, hz, ez⟩ := form q hq
        obtain ⟨y, hy, ey⟩ := form r hr'
        rw [ez, ey] at h ⊢
        obtain ⟨b1, b2⟩ := hb z hz
        obtain ⟨b3, b4⟩ := hb y hy
        exact ltP_iff.mpr (pair_lt h.1 h.2 b1 b2 b3 b4)
      · rw [mem_sortPU, List.mem_map]
        constructor
        · rintro ⟨p, hp, rfl⟩
          obtain ⟨z, hz, ez⟩ := form p hp
          rw [ez]
          exact hz
        · intro hk
          have : [k.1, k.2] ∈ ks.map (·.2) := by rw [hk2]; exact List.mem_map.mpr ⟨k, hk, rfl⟩
          obtain ⟨p, hp, ep⟩ := List.mem_map.mp this
          have := hall p hp
          obtain ⟨p', hp', ep'⟩ := List.mem_map.mp this
          exact ⟨p', pm.mem_iff.mpr hp', by rw [ep', ep]; rfl⟩
    have rL : RpAll C F1 (L'.map fun q => V.ref q.1) ((sortPU ns).map dPr) := by
      rw [← eL]
      refine rp_prs fun p hp => ?_
      obtain ⟨z, hz, ez⟩ := form p hp
      have hF := hkF p (hsub p (pm.mem_iff.mp hp))
      rw [ez] at hF
      exact ⟨z, ez, hF⟩
    exact q t _ F1 _ (e1.free (e2.free ht)) (e1.trans e3) (e2.fh.free ht) upd_same rL⟩
end
/-! ### the dict keyed by pairs of squares -/
theorem nd_of {P : Program} {w : World} {H : Hp} {h : PySem.Heap} {a : Addr} {xs : List (NestedKey × Addr × Value)} (ok : HOk P w H h) (e : H a = some (NdO w a xs)) (hk : ∀ x ∈ xs, (nestedKind P w).is h x.1 x.2.1) : h.DictOfH (nestedKind P w) a xs := by
  obtain ⟨⟨o, es, ep, h1, h2, h3, h4, h5⟩, _⟩ := (show ObjOk P w H h a (NdO w a xs) from ok a _ e)
  exact ⟨o, es, ep, h1, h2, h3, h4, hk, h5⟩
theorem nd_new {P : Program} {w : World} {H : Hp} {h : PySem.Heap} {a : Addr} {xs : List (NestedKey × Addr × Value)} (d : h.DictOfH (nestedKind P w) a xs) : ObjOk P w H h a (NdO w a xs) := by
  obtain ⟨o, es, ep, h1, h2, h3, h4, _, h5⟩ := d
  refine ⟨⟨o, es, ep, h1, h2, h3, h4, h5⟩, ⟨o, h1⟩, fun g1 g2 ⟨o', es', ep', k1, k2, k3, k4, k5⟩ kk => ⟨o', es', ep', kk _ k1, k2, k3, k4, k5⟩⟩
theorem tup_at {P : Program} {w : World} {H : Hp} {h : PySem.Heap} {b : Addr} {vs : List V} (ok : HOk P w H h) (e : H b = some (.tup vs)) : ∃ its, Vals vs its ∧ ∃ o n, h.get? b = some o ∧ o.cls = .type "tuple" ∧ o.data = .seq its.toArray n := by
  obtain ⟨_, its, r, o, h1, h2, n, h3⟩ := (show ObjOk P w H h b (.tup vs) from ok b _ e)
  exact ⟨its, r, o, n, h1, h2, h3⟩
theorem sq_is {P : Program} {w : World} {H : Hp} {h : PySem.Heap} {b : Addr} {x y : Int} (ok : HOk P w H h) (e : H b = some (.tup [.int x, .int y])) : NestedIs h (.tup [.num x, .num y]) (.ref b) := by
  obtain ⟨its, r, o, n, h1, h2, h3⟩ := tup_at ok e
  obtain ⟨u, v, rfl, ru, rv⟩ := vals2 r
  obtain ⟨t1, rfl⟩ := (show ∃ t, u = Value.int x t from ru)
  obtain ⟨t2, rfl⟩ := (show ∃ t, v = Value.int y t from rv)
  exact .tup h1 h2 h3 (by simpa using NestedAll.cons (.int x t1) (.cons (.int y t2) .nil))
theorem key2_is {P : Program} {w : World} {H : Hp} {h : PySem.Heap} {b : Addr} {k : Sq2} (ok : HOk P w H h) (e : Key2 H b k) : (nestedKind P w).is h (nk2 k) b := by
  obtain ⟨b1, b2, e0, e1, e2⟩ := e
  obtain ⟨its, r, o, n, h1, h2, h3⟩ := tup_at ok e0
  obtain ⟨u, v, rfl, ru, rv⟩ := vals2 r
  cases (show u = Value.ref b1 from ru)
  cases (show v = Value.ref b2 from rv)
  exact ⟨.tup h1 h2 h3 (by simpa using NestedAll.cons (sq_is ok e1) (.cons (sq_is ok e2) .nil)), by show 2 ≤ 8; decide⟩
theorem nk2_inj {a b : Sq2} (h : nk2 a = nk2 b) : a = b := by
  obtain ⟨⟨a1, a2⟩, ⟨a3, a4⟩⟩ := a
  obtain ⟨⟨b1, b2⟩, ⟨b3, b4⟩⟩ := b
  unfold nk2 at h
  injection h with h
  injection h with h1 h2
  injection h1 with h1
  injection h1 with h1 h3
  injection h3 with h3
  injection h2 with h2
  injection h2 with h2
  injection h2 with h2 h4
  injection h4 with h4
  injection h1 with h1
  injection h3 with h3
  injection h2 with h2
  injection h4 with h4
  exact Prod.ext (Prod.ext h1 h3) (Prod.ext h2 h4)
/-- the table -/
def gt2 : List (Sq2 × Option Int) → Sq2 → Option (Option Int)
  | [], _ => none
  | kv :: r, p => if kv.1 = p then some kv.2 else gt2 r p
def pt2 (es : List (Sq2 × Option Int)) (p : Sq2) (b : Option Int) : List (Sq2 × Option Int) :=
  if (gt2 es p).isSome = true then es.map (fun kv => if kv.1 = p then (kv.1, b) else kv) else es ++ [(p, b)]
theorem NdR.at {F : Hp} : ∀ {es : List (Sq2 × Option Int)} {xs : List (NestedKey × Addr × Value)} (p : Sq2), NdR F es xs → (gt2 es p = none ∧ atKey xs (nk2 p) = none) ∨ ∃ b q, gt2 es p = some b ∧ atKey xs (nk2 p) = some q ∧ RelV (vOI b) q.2
  | _, _, p, .nil => .inl ⟨rfl, rfl⟩
  | _, _, p, .cons (a := e) (b := x) h t => by
    obtain ⟨h1, h2, h3⟩ := h
    by_cases hp : e.1 = p
    · refine .inr ⟨e.2, x.2, ?_, ?_, h3⟩
      · unfold gt2; rw [if_pos hp]
      · have : x.1 = nk2 p := by rw [h1, hp]
        simp [atKey, List.find?_cons, this]
    · have hn : ¬ x.1 = nk2 p := fun z => hp (nk2_inj (h1.symm.trans z))
      rcases NdR.at p t with ⟨k1, k2⟩ | ⟨b, q, k1, k2, k3⟩
      · refine .inl ⟨?_, ?_⟩
        · unfold gt2; rw [if_neg hp]; exact k1
        · simpa [atKey, List.find?_cons, hn] using k2
      · refine .inr ⟨b, q, ?_, ?_, k3⟩
        · unfold gt2; rw [if_neg hp]; exact k1
        · simpa [atKey, List.find?_cons, hn] using k2
theorem NdR.repl {F : Hp} {p : Sq2} {b : Option Int} {u : Value} (ru : RelV (vOI b) u) : ∀ {es : List (Sq2 × Option Int)} {xs : List (NestedKey × Addr × Value)}, NdR F es xs → NdR F (es.map fun kv => if kv.1 = p then (kv.1, b) else kv) (xs.map (putAt (nk2 p) u))
  | _, _, .nil => .nil
  | _, _, .cons (a := e) (b := x) h t => by
    rw [List.map_cons, List.map_cons]
    refine .cons ?_ (NdR.repl ru t)
    obtain ⟨h1, h2, h3⟩ := h
    unfold putAt
    by_cases hp : e.1 = p
    · rw [if_pos hp, if_pos (by rw [h1, hp])]
      exact ⟨h1, h2, ru⟩
    · rw [if_neg hp, if_neg (fun z => hp (nk2_inj (h1.symm.trans z)))]
      exact ⟨h1, h2, h3⟩
theorem NdR.put {F : Hp} {es : List (Sq2 × Option Int)} {xs : List (NestedKey × Addr × Value)} (p : Sq2) {b : Option Int} {c : Addr} {u : Value} (r : NdR F es xs) (hc : Key2 F c p) (ru : RelV (vOI b) u) : NdR F (pt2 es p b) (storedH xs (nk2 p) c u) := by
  unfold pt2 storedH
  rcases r.at p with ⟨k1, k2⟩ | ⟨v, q, k1, k2, _⟩
  · rw [k1, k2]
    simp only [Option.isSome_none, Bool.false_eq_true, if_false]
    exact Paired.snoc r ⟨rfl, hc, ru⟩
  · rw [k1, k2]
    simp only [Option.isSome_some, if_true]
    exact r.repl ru
theorem pt2_len (es : List (Sq2 × Option Int)) (p : Sq2) (b : Option Int) : (pt2 es p b).length ≤ es.length + 1 := by
  unfold pt2
  split
  · rw [List.length_map]; omega
  · rw [List.length_append, List.length_singleton]; omega
theorem gt2_pt2 (es : List (Sq2 × Option Int)) (p q : Sq2) (b : Option Int) : gt2 (pt2 es p b) q = if q = p then some b else gt2 es q := by
  unfold pt2
  cases hg : gt2 es p with
  | some v =>
    simp only [Option.isSome_some, if_true]
    induction es generalizing v with
    | nil => cases hg
    | cons e r ih =>
      rw [List.map_cons]
      by_cases h1 : e.1 = p
      · rw [if_pos h1]
        unfold gt2
        by_cases h2 : q = p
        · subst h2
          rw [if_pos h1, if_pos rfl]
        · rw [if_neg (fun z => h2 (z.symm.trans h1)), if_neg h2, if_neg (fun z => h2 (z.symm.trans h1))]
          cases hr : gt2 r p with
          | some v' =>
            have := ih v' hr
            rw [if_neg h2] at this
            exact this
          | none =>
            have e' : r.map (fun kv => if kv.1 = p then (kv.1, b) else kv) = r := by
              have hne : ∀ l : List (Sq2 × Option Int), gt2 l p = none → ∀ x ∈ l, ¬ x.1 = p := by
                intro l
                induction l with
                | nil => intro _ x hx; cases hx
                | cons y l ih =>
                  intro hl x hx
                  unfold gt2 at hl
                  split at hl
                  · cases hl
                  · rcases List.mem_cons.mp hx with rfl | hx
                    · assumption
                    · exact ih hl x hx
              refine (List.map_congr_left fun x hx => ?_).trans (List.map_id r)
              rw [if_neg (hne r hr x hx)]
              rfl
            rw [e']
      · rw [if_neg h1]
        unfold gt2 at hg ⊢
        rw [if_neg h1] at hg
        by_cases h2 : e.1 = q
        · rw [if_pos h2, if_pos h2, if_neg (fun z => h1 (h2.trans z))]
        · rw [if_neg h2, if_neg h2]
          exact ih v hg
  | none =>
    simp only [Option.isSome_none, Bool.false_eq_true, if_false]
    induction es with
    | nil =>
      show gt2 [(p, b)] q = _
      unfold gt2
      by_cases h2 : q = p
      · rw [if_pos h2.symm, if_pos h2]
      · rw [if_neg (Ne.symm h2), if_neg h2]
        rfl
    | cons e r ih =>
      rw [List.cons_append]
      unfold gt2 at hg ⊢
      split at hg
      · cases hg
      · rename_i h1
        by_cases h2 : e.1 = q
        · rw [if_pos h2, if_pos h2, if_neg (fun z => h1 (h2.trans z))]
        · rw [if_neg h2, if_neg h2]
          exact ih hg
/-- reading -/
def tNdGet (td ty : TE) (w : World) : TE := fun σ H Q => td σ H fun x H1 => ty σ H1 fun y H2 => ∃ a xs b k q v, x = .ref a ∧ H2 a = some (NdO w a xs) ∧ (∀ x ∈ xs, ∃ k', x.1 = nk2 k' ∧ Key2 H2 x.2.1 k') ∧ y = .ref b ∧ Key2 H2 b k ∧ atKey xs (nk2 k) = some q ∧ RelV v q.2 ∧ Q v H2
def sNdPut (td ty tv : TE) (w : World) : TS := fun D σ H => tv σ H fun v H1 => td σ H1 fun x H2 => ty σ H2 fun y H3 => ∃ a xs b k, x = .ref a ∧ H3 a = some (NdO w a xs) ∧ (∀ x ∈ xs, ∃ k', x.1 = nk2 k' ∧ Key2 H3 x.2.1 k') ∧ y = .ref b ∧ Key2 H3 b k ∧ xs.length < 1000 ∧
  ∀ r, RelV v r → D.nx σ (upd H3 a (NdO w a (storedH xs (nk2 k) b r)))
section
variable {X : Cx} {o i e value : Expr} {pos pos' tpos : Pos} {td ty tv : TE} {n : Nat}
theorem pe_ndGet (hr : Room n X.A) (ho : PE X o td) (hi : PE X i ty) (hs : NoSl i) : PE X (.Subscript o i pos) (tNdGet td ty X.w) := by
  refine ⟨fun pins s σ H Q I h => ?_⟩
  refine subD_of PySem.F.slot_dict_getitem.lookup hs (thn (ho.run pins s σ H _ I h) fun u s1 ⟨x, H1, I1, rx, q1⟩ => thn (hi.run pins s1 σ H1 _ I1 q1) fun iv s2 ⟨y, H2, I2, ry, a, xs, b, k, q, v, ex, ha, hk, ey, hb, hq, rv, q2⟩ => ?_)
  subst ex ey
  obtain rfl : u = Value.ref a := rx
  obtain rfl : iv = Value.ref b := ry
  have dd := nd_of I2.hok ha fun x hx => by
    obtain ⟨k', h1, h2⟩ := hk x hx
    rw [h1]
    exact key2_is I2.hok h2
  refine ⟨dd.typeIs, wpAny_getItem_heap (by have := hr.units; show X.A.units + 1 + 8 < cLine; omega) (key2_is I2.hok hb) dd hq ⟨v, H2, I2.tok _, rv, q2⟩⟩
theorem ps_ndPut (hr : Room n X.A) (ho : PE X o td) (hi : PE X i ty) (hv : PE X value tv) (hs : swapsWith value (some (.Subscript o i pos')) pos.line X.env = pure false) :
    PS X (.Assign [.Subscript o i pos'] value pos) (sNdPut td ty tv X.w) := by
  refine ⟨fun pins s σ H D I h => ?_⟩
  refine wpAny_Assign_Subscript (thn (hv.run pins s σ H _ I h) fun r s1 ⟨v, H1, I1, rv, q1⟩ => thn (ho.run pins s1 σ H1 _ I1 q1) fun u s2 ⟨x, H2, I2, rx, q2⟩ => thn (hi.run pins s2 σ H2 _ I2 q2) fun iv s3 ⟨y, H3, I3, ry, a, xs, b, k, ex, ha, hk, ey, hb, hl, q3⟩ => ?_) hs
  subst ex ey
  obtain rfl : u = Value.ref a := rx
  obtain rfl : iv = Value.ref b := ry
  have dd := nd_of I3.hok ha fun x hx => by
    obtain ⟨k', h1, h2⟩ := hk x hx
    rw [h1]
    exact key2_is I3.hok h2
  refine wpAny_setItem_heap (hsz := by rw [sizeLine_eq]; omega) (by have := hr.units; show X.A.units + 1 + 8 < cLine; omega) (key2_is I3.hok hb) dd fun h' dd' hs' => ?_
  have he : ∃ q, h'.get? a = some q := let ⟨q, _, _, hq, _⟩ := dd'; ⟨q, hq⟩
  exact ⟨σ, _, d_write I3 (by rw [ha]; exact True.intro) hs' he (nd_new dd'), q3 r rv⟩
theorem pe_ndNew : PE X (.Dict [] [] pos) (fun _ H Q => ∀ p, H p = none → Q (.ref p) (upd H p (NdO X.w p []))) := ⟨fun pins s σ H Q I h =>
  wpAny_Dict_empty ⟨.ref s.heap.objs.size, _, I.laid (a := s.heap.objs.size) (o := NdO X.w s.heap.objs.size []) (t' := s.toks) (fun _ _ q => Heap.get?_push_of_some _ q) (Nat.le_refl _) (nd_new (P := X.prog) (w := X.w) (Heap.DictOfH.new s.heap)), rfl, h _ (I.hok.fresh (Nat.le_refl _))⟩⟩
end
section
variable {X : Cx} {C : Addr} {ρ : DE} {M : Mem} {P : Po} {e i o : Expr} {pos pos' : Pos} {n : Nat} {es : List (Sq2 × Option Int)} {p : Sq2} {b : Option Int}
theorem ek_nd0 {k : Dt → Mem → Prop} (hk : ∀ q, k (.ref q) (M ++ [(q, .nd X.w q [])])) : EvK X C ρ M (.Dict [] [] pos) k := PE.imp pe_ndNew fun σ H Q ⟨Fb, Hb, F, b, I, q⟩ => fun p hp => by
  have e1 : Ext F H F (upd H p (NdO X.w p [])) := .newH I.fh hp
  exact q _ _ _ F _ (hk p) (.refl F) (push_bs b e1 hp) (push_en I e1 hp (I.fh.free hp) upd_same ⟨[], rfl, .nil⟩) (.ref p)
def dPP2 (k : Sq2) : Dt := .tup [dPr k.1, dPr k.2]
theorem key2_rep {F : Hp} {y : V} (r : Rp C F y (dPP2 p)) : ∃ c, y = .ref c ∧ Key2 F c p := by
  obtain ⟨c, xs, rfl, hc, ra⟩ := r.inj_tup
  obtain ⟨u, v, rfl, ru, rv⟩ := ra.two
  obtain ⟨b1, rfl, h1⟩ := key_rep ru
  obtain ⟨b2, rfl, h2⟩ := key_rep rv
  exact ⟨c, rfl, b1, b2, hc, h1, h2⟩
theorem NdR.keys {F H : Hp} (e : Same F H) {es : List (Sq2 × Option Int)} {xs : List (NestedKey × Addr × Value)} (r : NdR F es xs) : ∀ x ∈ xs, ∃ k', x.1 = nk2 k' ∧ Key2 H x.2.1 k' := by
  induction r with
  | nil => intro x hx; cases hx
  | @cons a c as bs h t ih =>
    intro x hx
    rcases List.mem_cons.mp hx with rfl | hx
    · exact ⟨_, h.1, h.2.1.to e⟩
    · exact ih x hx
/-- o[i], o in the slot of an object that changes -/
theorem ev_ndGet (m : Nat) {q : Addr} (hr : Room n X.A) (ho : Ev X C ρ M o (.ref q)) (hi : Ev X C ρ M i (dPP2 p)) (hM : M[m]? = some (q, .nd X.w q es)) (hg : gt2 es p = some b) (hs : NoSl i := by intro _ _; rfl) : Ev X C ρ M (.Subscript o i pos) (dOI b) :=
  PE.imp (pe_ndGet hr ho hi hs) fun σ H Q ⟨F, I, qq⟩ => ⟨F, I, fun x F1 H1 e1 r1 => ⟨F1, I.ext e1, fun y F2 H2 e2 r2 => by
    have I2 := (I.ext e1).ext e2
    rw [r1.inj_ref]
    obtain ⟨f1, h1, hh, xs, rfl, rx⟩ := I2.m.m m q _ hM
    obtain ⟨c, rfl, hc⟩ := key2_rep r2
    rcases rx.at p with ⟨k1, _⟩ | ⟨b', z, k1, k2, k3⟩
    · rw [hg] at k1; cases k1
    · rw [hg] at k1
      obtain rfl := Option.some.inj k1
      exact ⟨q, xs, c, p, z, vOI b, rfl, hh, rx.keys I2.fh, rfl, hc.to I2.fh, k2, k3, qq _ F2 H2 (e1.trans e2) (rp_oi b)⟩⟩⟩
theorem sd_ndPut (m : Nat) {q : Addr} (hr : Room n X.A) (ho : Ev X C ρ M o (.ref q)) (hi : Ev X C ρ M i (dPP2 p)) (he : Ev X C ρ M e (dOI b)) (hM : M[m]? = some (q, .nd X.w q es)) (hl : es.length < 1000) (h : P.nx ρ (M.set m (q, .nd X.w q (pt2 es p b))))
    (hs : swapsWith e (some (.Subscript o i pos')) pos.line X.env = pure false := by rfl) : SD X C (.Assign [.Subscript o i pos'] e pos) ρ M P :=
  PS.imp (ps_ndPut hr ho hi he hs) fun D σ H ⟨Fb, Hb, F, bs, I, qq⟩ => ⟨F, I, fun v F1 H1 e1 r1 => ⟨F1, I.ext e1, fun x F2 H2 e2 r2 => ⟨F2, (I.ext e1).ext e2, fun y F3 H3 e3 r3 => by
    have I3 := ((I.ext e1).ext e2).ext e3
    rw [r2.inj_ref]
    obtain ⟨f1, h1, hh, xs, rfl, rx⟩ := I3.m.m m q _ hM
    obtain ⟨c, rfl, hc⟩ := key2_rep r3
    have hz : xs.length < 1000 := by rw [← Paired.length rx]; exact hl
    refine ⟨q, xs, c, p, rfl, hh, rx.keys I3.fh, rfl, hc.to I3.fh, hz, fun r rv => ?_⟩
    rw [r1.inj_oi] at rv
    exact qq.nx _ _ _ F3 _ h (chg_bs (C := C) (((bs.ext e1).ext e2).ext e3) I3.m hM) (chg_ok I3 hM ⟨_, rfl, rx.put p hc rv⟩)⟩⟩⟩
end
end BR
/-! BrX20: the law. -/
namespace BR
open PySem PySem.Spec PyProof.Rows L2
section
variable {X : Cx} {C : Addr} {ρ : DE} {M N : Mem} {P : Po} {ss : List Stmt} {a b c e : Expr} {d : Dt} {ds es : List Dt} {pos : Pos}
theorem SDs.drop (h : SDs X C ss ρ M P) : SDs X C ss ρ (M ++ N) P := PSs.imp h fun D σ H ⟨Fb, Hb, F, b, I, q⟩ => ⟨Fb, Hb, F, b.sub, I.sub, q⟩
theorem od_catL (hl : ds.length + es.length ≤ 100000) : OD C rCat (.lst ds) (.lst es) (.lst (ds ++ es)) := fun x y F H Q e r1 r2 q => by
  obtain ⟨p, xs, rfl, hp, ra⟩ := r1.inj_lst
  obtain ⟨p2, ys, rfl, hp2, ra2⟩ := r2.inj_lst
  refine ⟨p, p2, xs, ys, rfl, rfl, e _ _ hp, e _ _ hp2, by rw [ra.length, ra2.length]; exact Nat.le_trans hl (by decide), fun l hl => ?_⟩
  have ee := Ext.new (o := .lst (xs ++ ys)) e hl
  exact q _ _ _ ee (.lst upd_same ((ra.append ra2).to ee.f))
theorem ekt_val {kt : Bool → Mem → Prop} (h : EvK X C ρ M e fun d M' => ∃ k, d = .bl k ∧ kt k M') (he : ∀ whole, isTrue e X.env whole = (do let v ← whole; standAt e.pos; holding [v] (truthy v)) := by intro _; rfl) : EvKT X C ρ M e kt :=
  PT.imp (pt_val h he) fun σ H Q ⟨Fb, Hb, F, bs, I, q⟩ => ⟨Fb, Hb, F, bs, I, fun v d M' F' H' ⟨k, hd, hk⟩ s' b' I' r => by
    subst hd
    exact ⟨k, r.inj_bl, q k M' F' H' hk s' b' I'⟩⟩
theorem ekt_not {kt : Bool → Mem → Prop} (ha : EvKT X C ρ M a fun b M' => kt (!b) M') : EvKT X C ρ M (.UnaryOp .Not a pos) kt := PT.imp (pt_not ha) fun σ H Q ⟨Fb, Hb, F, bs, I, q⟩ => ⟨Fb, Hb, F, bs, I, fun b M' F' H' h s' b' I' => q (!b) M' F' H' h s' b' I'⟩
end
/-- all that a turn of the law needs -/
structure TurnOk (p : Pool) : Prop where
  o0 : PoolOk p
  o1 : PoolOk (tP1 p)
  o2 : PoolOk (tP2 p)
  o3 : PoolOk (tP3 p)
  oc : ∀ i, i ≤ 3 → PoolOk (farN (tXs p) (tYs p) (tCells p) (tP3 p) i).1
  lx : (tXs p).length = 6
  ly : (tYs p).length = 6
  c0 : (cellsOf (tP2 p)).2.length ≤ 25
  cb : ∀ c ∈ tRaw p, (0 ≤ c.1 ∧ c.1 < 64) ∧ (0 ≤ c.2 ∧ c.2 < 64)
  made : MadeOk (tXs p) (tYs p) (tCells p)
  cell : ∀ c ∈ tCells p, CellOk (tXs p) (tYs p) c
  cl : (tCells p).length ≤ 25
  cn : tCells p ≠ []
  sq : ∃ s0 s1 s2, (tSome p).2 = [s0, s1, s2]
  len : ∀ s ∈ (tSome p).2, ∀ g ∈ (tSome p).2, LenOk (tCells p) (tXs p) (tYs p) s g
  way : ∀ s ∈ (tSome p).2, ∀ g ∈ (tSome p).2, WayOk (tForm p) false s g
  eq : ∀ s ∈ (tSome p).2, ∀ g ∈ (tSome p).2, wayLen (tForm p) false s g = tLen p (s, g)
  sz : ∀ s ∈ (tSome p).2, ∀ g ∈ (tSome p).2, ∀ i, tLen p (s, g) = some i → i.natAbs.log2 < 1920
  part : PartOk (tForm p)
  isp : ∀ s ∈ (tSome p).2, ∃ g, IsPart (tForm p) s g
  pt : ∀ s ∈ (tSome p).2, ∀ g ∈ (tSome p).2, ∀ a b, IsPart (tForm p) s a → IsPart (tForm p) g b → (tLen p (s, g) = none ↔ slabsOf a ≠ slabsOf b)
  tri : ∀ s ∈ (tSome p).2, ∀ g ∈ (tSome p).2, ∀ t ∈ (tSome p).2, ∀ i j, tLen p (s, g) = some i → tLen p (g, t) = some j → ∃ k, tLen p (s, t) = some k ∧ k ≤ i + j
  dist : ∀ s ∈ (tSome p).2, ∀ g ∈ (tSome p).2, ∀ i, tLen p (s, g) = some i → steps s g ≤ i ∧ (i - steps s g) % 2 = 0
  mok : ∀ s ∈ (tSome p).2, ∀ g ∈ (tSome p).2, MovOk (tSome p).1 (tForm p) s g
  mov : ∀ s ∈ (tSome p).2, ∀ g ∈ (tSome p).2, mvRight (tSome p).1 (tForm p) s g (tLen p (s, g)) = true
  box : okBox (tBox p)
  shut : WayOk (slabsOf [tBox p]) true (tE0 p) (tE1 p)
  tot : wayLen (slabsOf [tBox p]) true (tE0 p) (tE1 p) = some (tTotal p)
/-- what is due for pairs of squares -/
def dueOf (L : Pr × Pr → Option Int) (l : List (Pr × Pr)) : List (Sq2 × Option Int) := l.foldl (fun es k => pt2 es k (L k)) []
theorem dueOf_snoc (L : Pr × Pr → Option Int) (l : List (Pr × Pr)) (k : Pr × Pr) : dueOf L (l ++ [k]) = pt2 (dueOf L l) k (L k) := by unfold dueOf; rw [List.foldl_append]; rfl
theorem dueOf_len (L : Pr × Pr → Option Int) : ∀ (l : List (Pr × Pr)) (es : List (Sq2 × Option Int)), (l.foldl (fun es k => pt2 es k (L k)) es).length ≤ es.length + l.length
  | [], es => Nat.le_refl _
  | k :: l, es => by
    rw [List.foldl_cons, List.length_cons]
    have h1 := dueOf_len L l (pt2 es k (L k))
    have h2 := pt2_len es k (L k)
    omega
theorem dueOf_get (L : Pr × Pr → Option Int) (q : Pr × Pr) : ∀ (l : List (Pr × Pr)) (es : List (Sq2 × Option Int)), q ∈ l ∨ gt2 es q = some (L q) → gt2 (l.foldl (fun es k => pt2 es k (L k)) es) q = some (L q)
  | [], es, h => h.resolve_left (by simp)
  | k :: l, es, h => by
    rw [List.foldl_cons]
    refine dueOf_get L q l _ ?_
    rw [gt2_pt2]
    by_cases e : q = k
    · subst e
      exact .inr (if_pos rfl)
    · rw [if_neg e]
      rcases h with h | h
      · exact .inl ((List.mem_cons.mp h).resolve_left e)
      · exact .inr h
def duePr (sm pre : List Pr) : List (Pr × Pr) := pre.flatMap fun s => sm.map fun g => (s, g)
theorem duePr_snoc (sm pre : List Pr) (s : Pr) : duePr sm (pre ++ [s]) = duePr sm pre ++ sm.map fun g => (s, g) := by
  unfold duePr
  rw [List.flatMap_append]
  simp
theorem mem_duePr {sm pre : List Pr} {k : Pr × Pr} : k ∈ duePr sm pre ↔ k.1 ∈ pre ∧ k.2 ∈ sm := by
  unfold duePr
  rw [List.mem_flatMap]
  constructor
  · rintro ⟨s, hs, hk⟩
    obtain ⟨g, hg, rfl⟩ := List.mem_map.mp hk
    exact ⟨hs, hg⟩
  · rintro ⟨h1, h2⟩
    exact ⟨k.1, h1, List.mem_map.mpr ⟨k.2, h2, rfl⟩⟩
theorem isNon_oi (x : Option Int) : isNon (dOI x) = decide (x = none) := by cases x <;> rfl
theorem at_last6 {xs : List Int} (h : xs.length = 6) : atI (xs.map Dt.int) (-1) = some (.int (atZ xs 5)) := by
  have hl : xs.getLast? = some (atZ xs 5) := by
    rw [List.getLast?_eq_getElem?, h, List.getElem?_eq_getElem (by omega)]
    unfold atZ
    rw [List.getD_eq_getElem?_getD, show ((5 : Int).toNat) = 6 - 1 from rfl, List.getElem?_eq_getElem (by omega)]
    rfl
  exact atI_last (f := Dt.int) hl
end BR
/-! BrY6: the law's least lengths. -/
namespace BR
abbrev Rise (l : List Int) : Prop := l.Pairwise (· < ·)
theorem rise_get {l : List Int} (h : Rise l) {i j : Nat} {a b : Int} (hi : l[i]? = some a) (hj : l[j]? = some b) : i < j ↔ a < b := by
  obtain ⟨h1, rfl⟩ := List.getElem?_eq_some_iff.mp hi
  obtain ⟨h2, rfl⟩ := List.getElem?_eq_some_iff.mp hj
  constructor
  · intro hij
    exact List.pairwise_iff_getElem.mp h i j h1 h2 hij
  · intro hab
    refine Classical.byContradiction fun hn => ?_
    by_cases e : j = i
    · subst e; omega
    · have := List.pairwise_iff_getElem.mp h j i h2 h1 (by omega)
      omega
theorem mem_enum {α : Type} {l : List α} {i : Nat} {x : α} : (i, x) ∈ enum 0 l ↔ l[i]? = some x := by
  rw [List.mem_iff_getElem?]
  constructor
  · rintro ⟨j, hj⟩
    rw [enum_get] at hj
    cases h : l[j]? with
    | none => rw [h] at hj; cases hj
    | some y =>
      rw [h] at hj
      have e := Option.some.inj hj
      have e1 := congrArg Prod.fst e
      have e2 := congrArg Prod.snd e
      dsimp only at e1 e2
      rw [Nat.zero_add] at e1
      subst e1 e2
      exact h
  · intro h
    refine ⟨i, ?_⟩
    rw [enum_get, h, Nat.zero_add]
    rfl
theorem prev_nb {l : List Int} (h : Rise l) {a b : Int} : (∃ i, l[i]? = some b ∧ prevI l i = a ∧ a < b) ↔ NbL l a b ∧ a < b := by
  constructor
  · rintro ⟨i, h1, h2, h3⟩
    unfold prevI at h2
    by_cases h0 : i = 0
    · rw [if_pos h0] at h2
      subst h0
      exfalso
      cases l with
      | nil => cases h1
      | cons x r =>
        obtain rfl := Option.some.inj h1
        have : a ∈ x :: r := by
          rw [← h2, List.getLastD_eq_getLast?, List.getLast?_eq_some_getLast (by simp)]
          exact List.getLast_mem _
        rcases List.mem_cons.mp this with e | hm
        · omega
        · have := (List.pairwise_cons.mp h).1 a hm
          omega
    · rw [if_neg h0] at h2
      have hi : i - 1 < l.length := by
        have := (List.getElem?_eq_some_iff.mp h1).1
        omega
      have h4 : l[i - 1]? = some a := by
        rw [List.getElem?_eq_getElem hi, ← h2, List.getD_eq_getElem?_getD, List.getElem?_eq_getElem hi]
        rfl
      refine ⟨⟨List.mem_of_getElem? h4, List.mem_of_getElem? h1, by omega, fun z hz => ?_⟩, h3⟩
      obtain ⟨j, hj⟩ := List.mem_iff_getElem?.mp hz
      have k1 := rise_get h h4 hj
      have k2 := rise_get h hj h1
      omega
  · rintro ⟨⟨h1, h2, _, h3⟩, h4⟩
    obtain ⟨j, hj⟩ := List.mem_iff_getElem?.mp h1
    obtain ⟨i, hi⟩ := List.mem_iff_getElem?.mp h2
    have k1 := (rise_get h hj hi).mpr h4
    have hl := (List.getElem?_eq_some_iff.mp hi).1
    have hm : l[i - 1]? = some (l[i - 1]'(by omega)) := List.getElem?_eq_getElem (by omega)
    have k2 := rise_get h hj hm
    have k3 := rise_get h hm hi
    have k4 := h3 _ (List.mem_of_getElem? hm)
    have e : j = i - 1 := by omega
    refine ⟨i, hi, ?_, h4⟩
    unfold prevI
    rw [if_neg (by omega), List.getD_eq_getElem?_getD, ← e, hj]
    rfl
/-! ### the law's links -/
def lawPairs (cols rows : List Int) : List (Pr × Pr) := (enum 0 cols).flatMap fun ix => (enum 0 rows).flatMap fun jy => [((prevI cols ix.1, jy.2), (ix.2, jy.2)), ((ix.2, prevI rows jy.1), (ix.2, jy.2))]
theorem lawLinks_eq (cols rows : List Int) (own : Own) : lawLinks cols rows own = (lawPairs cols rows).foldl (fun es pq => llStep own pq.2 es pq.1) (own.map fun kv => (kv.1, [])) := by
  unfold lawPairs lawLinks
  rw [List.foldl_flatMap]
  congr 1
  funext es ix
  rw [List.foldl_flatMap]
  rfl
theorem mem_lawPairs {cols rows : List Int} (hc : Rise cols) (hr : Rise rows) {pq : Pr × Pr} : (pq ∈ lawPairs cols rows ∧ ltPr' pq.1 pq.2 = true) ↔ (pq.1.2 = pq.2.2 ∧ pq.1.2 ∈ rows ∧ pq.1.1 < pq.2.1 ∧ NbL cols pq.1.1 pq.2.1) ∨ (pq.1.1 = pq.2.1 ∧ pq.1.1 ∈ cols ∧ pq.1.2 < pq.2.2 ∧ NbL rows pq.1.2 pq.2.2) := by
  unfold lawPairs
  constructor
  · rintro ⟨hm, hl⟩
    obtain ⟨⟨i, x⟩, h1, hm⟩ := List.mem_flatMap.mp hm
    obtain ⟨⟨j, y⟩, h2, hm⟩ := List.mem_flatMap.mp hm
    rw [mem_enum] at h1 h2
    dsimp only at hm
    rcases List.mem_cons.mp hm with rfl | hm
    · rw [ltP_iff] at hl
      dsimp only at hl
      have := (prev_nb hc).mp ⟨i, h1, rfl, by omega⟩
      exact .inl ⟨rfl, List.mem_of_getElem? h2, this.2, this.1⟩
    · rw [List.mem_singleton] at hm
      subst hm
      rw [ltP_iff] at hl
      dsimp only at hl
      have := (prev_nb hr).mp ⟨j, h2, rfl, by omega⟩
      exact .inr ⟨rfl, List.mem_of_getElem? h1, this.2, this.1⟩
  · obtain ⟨⟨a, b⟩, ⟨c, d⟩⟩ := pq
    dsimp only
    rintro (⟨h1, h2, h3, h4⟩ | ⟨h1, h2, h3, h4⟩)
    · subst h1
      obtain ⟨i, k1, k2, _⟩ := (prev_nb hc).mpr ⟨h4, h3⟩
      obtain ⟨j, hj⟩ := List.mem_iff_getElem?.mp h2
      refine ⟨List.mem_flatMap.mpr ⟨(i, c), mem_enum.mpr k1, List.mem_flatMap.mpr ⟨(j, b), mem_enum.mpr hj, ?_⟩⟩, ltP_iff.mpr (.inl h3)⟩
      rw [k2]
      exact List.mem_cons_self
    · subst h1
      obtain ⟨j, k1, k2, _⟩ := (prev_nb hr).mpr ⟨h4, h3⟩
      obtain ⟨i, hi⟩ := List.mem_iff_getElem?.mp h2
      refine ⟨List.mem_flatMap.mpr ⟨(i, a), mem_enum.mpr hi, List.mem_flatMap.mpr ⟨(j, d), mem_enum.mpr k1, ?_⟩⟩, ltP_iff.mpr (.inr ⟨rfl, h3⟩)⟩
      rw [k2]
      simp
theorem lawNb {cols rows : List Int} (hc : Rise cols) (hr : Rise rows) {own : Own} {k t : Pr} : NbT (lawLinks cols rows own) k t ↔ (k ∈ own.map (·.1) ∧ t ∈ own.map (·.1)) ∧ ((k.2 = t.2 ∧ k.2 ∈ rows ∧ NbL cols k.1 t.1) ∨ (k.1 = t.1 ∧ k.1 ∈ cols ∧ NbL rows k.2 t.2)) := by
  unfold NbT
  rw [lawLinks_eq]
  have hk0 : (own.map fun kv => (kv.1, ([] : List Pr))).map (·.1) = own.map (·.1) := by rw [List.map_map]; rfl
  have e0 : (own.map fun kv => (kv.1, ([] : List Pr))) = (own.map (·.1)).map fun k => (k, []) := by rw [List.map_map]; rfl
  rw [fold_nb (K := own.map (·.1)) (ok := fun pq => (pq.1 ∈ own.map (·.1) ∧ pq.2 ∈ own.map (·.1)) ∧ ltPr' pq.1 pq.2 = true) (fun es pq hk => by
    unfold llStep
    split
    · rename_i h1
      rw [Bool.and_eq_true, Bool.and_eq_true, gt_some_iff, gt_some_iff] at h1
      exact .inl ⟨⟨⟨⟨h1.2.1, h1.2.2⟩, h1.1⟩, h1.2.1, h1.2.2⟩, rfl⟩
    · rename_i h1
      rw [Bool.and_eq_true, Bool.and_eq_true, gt_some_iff, gt_some_iff] at h1
      exact .inr ⟨fun h2 => h1 ⟨h2.2, h2.1.1, h2.1.2⟩, rfl⟩) _ _ hk0, e0, nbrs_empty]
  constructor
  · rintro (h0 | ⟨pq, hm, ⟨⟨hk1, hk2⟩, hl⟩, hkt⟩)
    · cases h0
    · rcases (mem_lawPairs hc hr).mp ⟨hm, hl⟩ with ⟨a1, a2, a3, a4⟩ | ⟨a1, a2, a3, a4⟩
      · rcases hkt with ⟨rfl, rfl⟩ | ⟨rfl, rfl⟩
        · exact ⟨⟨hk1, hk2⟩, .inl ⟨a1, a2, a4⟩⟩
        · exact ⟨⟨hk2, hk1⟩, .inl ⟨a1.symm, a1 ▸ a2, a4.symm⟩⟩
      · rcases hkt with ⟨rfl, rfl⟩ | ⟨rfl, rfl⟩
        · exact ⟨⟨hk1, hk2⟩, .inr ⟨a1, a2, a4⟩⟩
        · exact ⟨⟨hk2, hk1⟩, .inr ⟨a1.symm, a1 ▸ a2, a4.symm⟩⟩
  · rintro ⟨⟨hk, ht⟩, hg⟩
    refine .inr ?_
    rcases hg with ⟨a1, a2, a3⟩ | ⟨a1, a2, a3⟩
    · by_cases hl : k.1 < t.1
      · have := (mem_lawPairs hc hr (pq := (k, t))).mpr (.inl ⟨a1, a2, hl, a3⟩)
        exact ⟨(k, t), this.1, ⟨⟨hk, ht⟩, this.2⟩, .inl ⟨rfl, rfl⟩⟩
      · have := a3.2.2.1
        have := (mem_lawPairs hc hr (pq := (t, k))).mpr (.inl ⟨a1.symm, a1 ▸ a2, by dsimp only; omega, a3.symm⟩)
        exact ⟨(t, k), this.1, ⟨⟨ht, hk⟩, this.2⟩, .inr ⟨rfl, rfl⟩⟩
    · by_cases hl : k.2 < t.2
      · have := (mem_lawPairs hc hr (pq := (k, t))).mpr (.inr ⟨a1, a2, hl, a3⟩)
        exact ⟨(k, t), this.1, ⟨⟨hk, ht⟩, this.2⟩, .inl ⟨rfl, rfl⟩⟩
      · have := a3.2.2.1
        have := (mem_lawPairs hc hr (pq := (t, k))).mpr (.inr ⟨a1.symm, a1 ▸ a2, by dsimp only; omega, a3.symm⟩)
        exact ⟨(t, k), this.1, ⟨⟨ht, hk⟩, this.2⟩, .inr ⟨rfl, rfl⟩⟩
theorem key_pt {β : Type} {es : List (Pr × β)} {p k : Pr} {b : β} : k ∈ (pt es p b).map (·.1) ↔ k ∈ es.map (·.1) ∨ k = p := by
  rw [pt_keys]
  split
  · rename_i h
    constructor
    · exact .inl
    · rintro (h' | rfl)
      · exact h'
      · exact h
  · rw [List.mem_append, List.mem_singleton]
theorem own_mem {cells : List Pr} {xs ys cols rows : List Int} {p : Pr} : p ∈ (ownOf cells xs ys cols rows).map (·.1) ↔ p.1 ∈ cols ∧ p.2 ∈ rows ∧ ∃ c ∈ cells, cellHas xs ys c p = true := by
  have h1 : ∀ (c : Pr) (x : Int) (l : List Int) (es : Own), p ∈ (l.foldl (ownY xs ys c x) es).map (·.1) ↔ p ∈ es.map (·.1) ∨ (p.1 = x ∧ p.2 ∈ l ∧ cellHas xs ys c p = true) := by
    intro c x l
    induction l with
    | nil => intro es; simp
    | cons y l ih =>
      intro es
      rw [List.foldl_cons, ih]
      unfold ownY
      constructor
      · rintro (h | ⟨h, h2, h3⟩)
        · split at h
          · rename_i hc
            rcases key_pt.mp h with h | rfl
            · exact .inl h
            · exact .inr ⟨rfl, List.mem_cons_self, hc⟩
          · exact .inl h
        · exact .inr ⟨h, List.mem_cons_of_mem _ h2, h3⟩
      · rintro (h | ⟨h, h2, h3⟩)
        · refine .inl ?_
          split
          · exact key_pt.mpr (.inl h)
          · exact h
        · rcases List.mem_cons.mp h2 with h2 | h2
          · refine .inl ?_
            have e : p = (x, y) := Prod.ext h h2
            rw [if_pos (e ▸ h3)]
            exact key_pt.mpr (.inr e)
          · exact .inr ⟨h, h2, h3⟩
  have h2 : ∀ (c : Pr) (l : List Int) (es : Own), p ∈ (l.foldl (ownX xs ys rows c) es).map (·.1) ↔ p ∈ es.map (·.1) ∨ (p.1 ∈ l ∧ p.2 ∈ rows ∧ cellHas xs ys c p = true) := by
    intro c l
    induction l with
    | nil => intro es; simp
    | cons x l ih =>
      intro es
      rw [List.foldl_cons, ih]
      unfold ownX
      rw [h1]
      constructor
      · rintro ((h | ⟨h, h2, h3⟩) | ⟨h, h2, h3⟩)
        · exact .inl h
        · exact .inr ⟨by rw [h]; exact List.mem_cons_self, h2, h3⟩
        · exact .inr ⟨List.mem_cons_of_mem _ h, h2, h3⟩
      · rintro (h | ⟨h, h2, h3⟩)
        · exact .inl (.inl h)
        · rcases List.mem_cons.mp h with h | h
          · exact .inl (.inr ⟨h, h2, h3⟩)
          · exact .inr ⟨h, h2, h3⟩
  have h3 : ∀ (l : List Pr) (es : Own), p ∈ (l.foldl (ownC xs ys cols rows) es).map (·.1) ↔ p ∈ es.map (·.1) ∨ (p.1 ∈ cols ∧ p.2 ∈ rows ∧ ∃ c ∈ l, cellHas xs ys c p = true) := by
    intro l
    induction l with
    | nil => intro es; simp
    | cons x l ih =>
      intro es
      rw [List.foldl_cons, ih]
      unfold ownC
      rw [h2]
      constructor
      · rintro ((h | ⟨h, h2, h3⟩) | ⟨h, h2, c, h3, h4⟩)
        · exact .inl h
        · exact .inr ⟨h, h2, x, List.mem_cons_self, h3⟩
        · exact .inr ⟨h, h2, c, List.mem_cons_of_mem _ h3, h4⟩
      · rintro (h | ⟨h, h2, c, h3, h4⟩)
        · exact .inl (.inl h)
        · rcases List.mem_cons.mp h3 with rfl | h3
          · exact .inl (.inr ⟨h, h2, h4⟩)
          · exact .inr ⟨h, h2, c, h3, h4⟩
  unfold ownOf
  rw [h3]
  simp
/-! ### the law's cells -/
theorem atZ_get {xs : List Int} {i : Int} (h0 : 0 ≤ i) (h : i < xs.length) : xs[i.toNat]? = some (atZ xs i) := by
  unfold atZ
  rw [List.getD_eq_getElem?_getD, List.getElem?_eq_getElem (by omega)]
  rfl
theorem atZ_lt {xs : List Int} (hx : Rise xs) {i j : Int} (hi : 0 ≤ i) (hj : 0 ≤ j) (hi' : i < xs.length) (hj' : j < xs.length) : atZ xs i < atZ xs j ↔ i < j := by
  have := rise_get hx (atZ_get hi hi') (atZ_get hj hj')
  omega
theorem at_dropLast {xs : List Int} {i : Int} (h0 : 0 ≤ i) (h : i + 1 < xs.length) : atZ xs i ∈ xs.dropLast := by
  refine List.mem_iff_getElem?.mpr ⟨i.toNat, ?_⟩
  rw [List.getElem?_dropLast, if_pos (by omega), atZ_get h0 (by omega)]
theorem at_drop {xs : List Int} {i : Int} (h0 : 0 ≤ i) (h : i + 1 < xs.length) : atZ xs (i + 1) ∈ xs.drop 1 := by
  refine List.mem_iff_getElem?.mpr ⟨i.toNat, ?_⟩
  rw [List.getElem?_drop, ← atZ_get (by omega) h]
  congr 1
  omega
theorem cellHas_iff {xs ys : List Int} {c p : Pr} : cellHas xs ys c p = true ↔ inBox (boxAt xs ys c) p := by
  unfold cellHas inBox boxAt
  rw [Bool.and_eq_true, decide_eq_true_iff, decide_eq_true_iff]
  dsimp only
  constructor
  · rintro ⟨⟨a, b⟩, c, d⟩; exact ⟨a, b, c, d⟩
  · rintro ⟨a, b, c, d⟩; exact ⟨⟨a, b⟩, c, d⟩
def cellBs (cells : List Pr) (xs ys : List Int) : List Box := cells.map (boxAt xs ys)
theorem mem_cellBs {cells : List Pr} {xs ys : List Int} {p : Pr} : inBoxes (cellBs cells xs ys) p ↔ ∃ c ∈ cells, inBox (boxAt xs ys c) p := by
  unfold inBoxes cellBs
  constructor
  · rintro ⟨b, hb, h⟩
    obtain ⟨c, hc, rfl⟩ := List.mem_map.mp hb
    exact ⟨c, hc, h⟩
  · rintro ⟨c, hc, h⟩
    exact ⟨_, List.mem_map.mpr ⟨c, hc, rfl⟩, h⟩
theorem nb_fill {C : List Int} {a b l1 h1 l2 h2 z : Int} (n : NbL C a b) (hab : a < b) (ha : l1 ≤ a ∧ a < h1) (hb : l2 ≤ b ∧ b < h2) (c1 : h1 - 1 ∈ C) (c2 : l2 ∈ C) (gap : h1 < l2 → h1 ∈ C) (z1 : a ≤ z) (z2 : z ≤ b) : (l1 ≤ z ∧ z < h1) ∨ (l2 ≤ z ∧ z < h2) := by
  have k1 := n.2.2.2 _ c1
  have k2 := n.2.2.2 _ c2
  refine Classical.byContradiction fun hn => ?_
  have : h1 < l2 := by omega
  have k3 := n.2.2.2 _ (gap this)
  omega
section
variable {cells : List Pr} {xs ys : List Int} {s g : Pr}
theorem mem_lawCols {z : Int} : z ∈ lawCols xs s g ↔ z = s.1 ∨ z = g.1 ∨ z ∈ xs.dropLast ∨ ∃ x ∈ xs.drop 1, z = x - 1 := by
  unfold lawCols lcRaw
  rw [mem_sortU, List.mem_append, List.mem_append, List.mem_map]
  simp only [List.mem_cons, List.not_mem_nil, or_false, or_assoc, eq_comm]
theorem mem_lawRows {z : Int} : z ∈ lawRows ys s g ↔ z = s.2 ∨ z = g.2 ∨ z ∈ ys.dropLast ∨ ∃ x ∈ ys.drop 1, z = x - 1 := by
  unfold lawRows lcRaw
  rw [mem_sortU, List.mem_append, List.mem_append, List.mem_map]
  simp only [List.mem_cons, List.not_mem_nil, or_false, or_assoc, eq_comm]
theorem law_nb (hx : Rise xs) (hy : Rise ys) (ok : ∀ c ∈ cells, CellOk xs ys c) {k t : Pr} : NbT (lawTab cells xs ys s g) k t ↔ GE (inBoxes (cellBs cells xs ys)) (lawCols xs s g) (lawRows ys s g) k t := by
  have hc : Rise (lawCols xs s g) := sortU_pw
  have hr : Rise (lawRows ys s g) := sortU_pw
  have cx0 : ∀ i : Int, 0 ≤ i → i + 1 < xs.length → atZ xs i ∈ lawCols xs s g := fun i h0 h => mem_lawCols.mpr (.inr (.inr (.inl (at_dropLast h0 h))))
  have cx1 : ∀ i : Int, 0 ≤ i → i + 1 < xs.length → atZ xs (i + 1) - 1 ∈ lawCols xs s g := fun i h0 h => mem_lawCols.mpr (.inr (.inr (.inr ⟨_, at_drop h0 h, rfl⟩)))
  have cy0 : ∀ i : Int, 0 ≤ i → i + 1 < ys.length → atZ ys i ∈ lawRows ys s g := fun i h0 h => mem_lawRows.mpr (.inr (.inr (.inl (at_dropLast h0 h))))
  have cy1 : ∀ i : Int, 0 ≤ i → i + 1 < ys.length → atZ ys (i + 1) - 1 ∈ lawRows ys s g := fun i h0 h => mem_lawRows.mpr (.inr (.inr (.inr ⟨_, at_drop h0 h, rfl⟩)))
  unfold lawTab
  rw [lawNb hc hr, own_mem, own_mem]
  generalize lawCols xs s g = C at *
  generalize lawRows ys s g = R at *
  have horiz : ∀ {k t : Pr}, k.2 = t.2 → NbL C k.1 t.1 → k.1 < t.1 → (∃ c ∈ cells, inBox (boxAt xs ys c) k) → (∃ c ∈ cells, inBox (boxAt xs ys c) t) → Seg (inBoxes (cellBs cells xs ys)) k t := by
    rintro k t he n hl ⟨c, hcm, a1, a2, a3, a4⟩ ⟨d, hdm, b1, b2, b3, b4⟩ z z1 z2
    have oc := ok c hcm
    have od := ok d hdm
    unfold boxAt at a1 a2 a3 a4 b1 b2 b3 b4
    dsimp only at a1 a2 a3 a4 b1 b2 b3 b4
    have hf := nb_fill (z := z.1) n hl ⟨a1, a2⟩ ⟨b1, b2⟩ (cx1 _ oc.x0 oc.x1) (cx0 _ od.x0 od.x1) (fun hg => by
      have h1 := oc.x0
      have h2 := oc.x1
      have h3 := od.x0
      have h4 := od.x1
      rw [atZ_lt hx (by omega) (by omega) (by omega) (by omega)] at hg
      exact cx0 _ (by omega) (by omega)) (by unfold Btw at z1; omega) (by unfold Btw at z1; omega)
    have hz2 : z.2 = k.2 := by unfold Btw at z2; omega
    rw [mem_cellBs]
    rcases hf with h | h
    · exact ⟨c, hcm, h.1, h.2, by show atZ ys c.2 ≤ z.2; omega, by show z.2 < atZ ys (c.2 + 1); omega⟩
    · exact ⟨d, hdm, h.1, h.2, by show atZ ys d.2 ≤ z.2; omega, by show z.2 < atZ ys (d.2 + 1); omega⟩
  have vert : ∀ {k t : Pr}, k.1 = t.1 → NbL R k.2 t.2 → k.2 < t.2 → (∃ c ∈ cells, inBox (boxAt xs ys c) k) → (∃ c ∈ cells, inBox (boxAt xs ys c) t) → Seg (inBoxes (cellBs cells xs ys)) k t := by
    rintro k t he n hl ⟨c, hcm, a1, a2, a3, a4⟩ ⟨d, hdm, b1, b2, b3, b4⟩ z z1 z2
    have oc := ok c hcm
    have od := ok d hdm
    unfold boxAt at a1 a2 a3 a4 b1 b2 b3 b4
    dsimp only at a1 a2 a3 a4 b1 b2 b3 b4
    have hf := nb_fill (z := z.2) n hl ⟨a3, a4⟩ ⟨b3, b4⟩ (cy1 _ oc.y0 oc.y1) (cy0 _ od.y0 od.y1) (fun hg => by
      have h1 := oc.y0
      have h2 := oc.y1
      have h3 := od.y0
      have h4 := od.y1
      rw [atZ_lt hy (by omega) (by omega) (by omega) (by omega)] at hg
      exact cy0 _ (by omega) (by omega)) (by unfold Btw at z2; omega) (by unfold Btw at z2; omega)
    have hz2 : z.1 = k.1 := by unfold Btw at z1; omega
    rw [mem_cellBs]
    rcases hf with h | h
    · exact ⟨c, hcm, by show atZ xs c.1 ≤ z.1; omega, by show z.1 < atZ xs (c.1 + 1); omega, h.1, h.2⟩
    · exact ⟨d, hdm, by show atZ xs d.1 ≤ z.1; omega, by show z.1 < atZ xs (d.1 + 1); omega, h.1, h.2⟩
  have has : ∀ {p : Pr}, (∃ c ∈ cells, cellHas xs ys c p = true) ↔ ∃ c ∈ cells, inBox (boxAt xs ys c) p := fun {p} => by
    constructor
    · rintro ⟨c, h1, h2⟩; exact ⟨c, h1, cellHas_iff.mp h2⟩
    · rintro ⟨c, h1, h2⟩; exact ⟨c, h1, cellHas_iff.mpr h2⟩
  rw [has, has]
  constructor
  · rintro ⟨⟨⟨k1, k2, k3⟩, t1, t2, t3⟩, hg⟩
    refine ⟨hg, ?_⟩
    rcases hg with ⟨a1, a2, a3⟩ | ⟨a1, a2, a3⟩
    · by_cases hl : k.1 < t.1
      · exact horiz a1 a3 hl k3 t3
      · have := a3.2.2.1
        exact (horiz a1.symm a3.symm (by omega) t3 k3).symm
    · by_cases hl : k.2 < t.2
      · exact vert a1 a3 hl k3 t3
      · have := a3.2.2.1
        exact (vert a1.symm a3.symm (by omega) t3 k3).symm
  · rintro ⟨hg, hs⟩
    have hk := mem_cellBs.mp (hs k (by unfold Btw; omega) (by unfold Btw; omega))
    have ht := mem_cellBs.mp (hs t (by unfold Btw; omega) (by unfold Btw; omega))
    refine ⟨?_, hg⟩
    rcases hg with ⟨a1, a2, a3⟩ | ⟨a1, a2, a3⟩
    · exact ⟨⟨a3.1, a2, hk⟩, a3.2.1, a1 ▸ a2, ht⟩
    · exact ⟨⟨a2, a3.1, hk⟩, a1 ▸ a2, a3.2.1, ht⟩
theorem law_start (hs : inBoxes (cellBs cells xs ys) s) : s ∈ (lawTab cells xs ys s g).map (·.1) := by
  unfold lawTab
  rw [lawLinks_keys, own_mem]
  obtain ⟨c, hc, h⟩ := mem_cellBs.mp hs
  exact ⟨mem_lawCols.mpr (.inl rfl), mem_lawRows.mpr (.inl rfl), c, hc, cellHas_iff.mpr h⟩
theorem law_len (hx : Rise xs) (hy : Rise ys) (ok : ∀ c ∈ cells, CellOk xs ys c) (hs : inBoxes (cellBs cells xs ys) s) : IsLen (inBoxes (cellBs cells xs ys)) s g (lawLen cells xs ys s g) := by
  have L : Lines (inBoxes (cellBs cells xs ys)) (lawCols xs s g) (lawRows ys s g) := lines_boxes fun b hb => by
    obtain ⟨c, hc, rfl⟩ := List.mem_map.mp hb
    have o := ok c hc
    exact ⟨mem_lawCols.mpr (.inr (.inr (.inl (at_dropLast o.x0 o.x1)))), mem_lawCols.mpr (.inr (.inr (.inr ⟨_, at_drop o.x0 o.x1, rfl⟩))), mem_lawRows.mpr (.inr (.inr (.inl (at_dropLast o.y0 o.y1)))), mem_lawRows.mpr (.inr (.inr (.inr ⟨_, at_drop o.y0 o.y1, rfl⟩)))⟩
  refine glen_len L (fun p q => law_nb (s := s) (g := g) hx hy ok) hs (mem_lawCols.mpr (.inl rfl)) (mem_lawRows.mpr (.inl rfl)) (mem_lawCols.mpr (.inr (.inl rfl))) (mem_lawRows.mpr (.inr (.inl rfl))) ?_
  exact llGo_len (lawLinks_closed _ _ _) _ (LI.start (law_start hs)) (Nat.le_refl _)
end
/-! ### a bound -/
theorem llGo_bound {es : Tab} {s goal : Pr} {W : Int} (cl : Closed es) (hW0 : 0 ≤ W) (hW : ∀ k t, t ∈ nbrs es k → steps k t ≤ W) : ∀ (n : Nat) {least : Lst} {done : Own}, LI es s least done → (∀ k d, gt least k = some d → 0 ≤ d ∧ d ≤ done.length * W) → ∀ i, llGo es goal n least done = some i → 0 ≤ i ∧ i ≤ es.length * W
  | 0, least, done, I, hb, i, h => by cases h
  | n + 1, least, done, I, hb, i, h => by
    unfold llGo at h
    by_cases hg : (gt done goal).isSome = true
    · rw [if_pos hg] at h
      obtain ⟨h1, h2⟩ := hb _ _ h
      have h3 : (done.length : Int) * W ≤ es.length * W := Int.mul_le_mul_of_nonneg_right (by have := I.len; omega) hW0
      omega
    · rw [if_neg hg] at h
      cases hl : llLeft least done with
      | nil => rw [hl] at h; cases h
      | cons e r =>
        rw [hl] at h
        obtain ⟨h1, h2⟩ := I.next cl hl
        have hm := (minE_spec (r := r) (m := e)).1
        rw [← hl] at hm
        obtain ⟨k1, k2⟩ := (mem_left I.ndl).mp hm
        refine llGo_bound cl hW0 hW n h1 (fun k d hk => ?_) i h
        rw [h2]
        have hm : ((done.length + 1 : Nat) : Int) * W = done.length * W + W := by rw [Int.natCast_add, Int.add_mul]; omega
        rw [hm]
        obtain ⟨_, _, _, r4, _⟩ := relax_fold (far := (minE e r).1) (here := (minE e r).2) (nbrs es (minE e r).2) least I.ndl
        rcases r4 k d hk with hk | ⟨hkn, rfl⟩
        · have := hb _ _ hk
          omega
        · have a1 := hb _ _ k1
          have a2 := hW _ _ hkn
          have a3 := steps_nn (minE e r).2 k
          omega
end BR
/-! BrY8: sizes. -/
namespace BR
theorem rise_len {l B : List Int} (h : Rise l) (hs : ∀ k ∈ l, k ∈ B) : l.length ≤ B.length := by
  have e : sortU l = l := rising_eq sortU_pw h fun k => mem_sortU
  have := sortU_len hs
  rwa [e] at this
section
variable {f g : Form} {BX BY : List Int} {s t : Pr}
theorem form_length (h : Wf f) (b : FIn f BX BY) : f.length ≤ BX.length := by
  have : Rise (f.map (·.1)) := by
    have h2 : ∀ {l : Form}, l.Pairwise (fun s t => s.2.1 ≤ t.1) → (∀ s ∈ l, s.1 < s.2.1) → Rise (l.map (·.1)) := by
      intro l
      induction l with
      | nil => intro _ _; exact .nil
      | cons u l ih =>
        intro hp hv
        obtain ⟨k1, k2⟩ := List.pairwise_cons.mp hp
        rw [List.map_cons]
        refine List.pairwise_cons.mpr ⟨fun z hz => ?_, ih k2 fun s hs => hv s (List.mem_cons_of_mem _ hs)⟩
        obtain ⟨w, hw, rfl⟩ := List.mem_map.mp hz
        have := k1 w hw
        have := hv u List.mem_cons_self
        omega
    exact h2 h.s.o h.s.v
  have := rise_len this (B := BX) fun k hk => by
    obtain ⟨w, hw, rfl⟩ := List.mem_map.mp hk
    exact (b.x w hw).1
  rwa [List.length_map] at this
theorem spn_length {ss : List Pr} (h : SpnOk ss) (hb : ∀ p ∈ ss, p.1 ∈ BY) : ss.length ≤ BY.length := by
  have h2 : ∀ {l : List Pr}, l.Pairwise (fun p q => p.2 < q.1) → (∀ s ∈ l, s.1 < s.2) → Rise (l.map (·.1)) := by
    intro l
    induction l with
    | nil => intro _ _; exact .nil
    | cons u l ih =>
      intro hp hv
      obtain ⟨k1, k2⟩ := List.pairwise_cons.mp hp
      rw [List.map_cons]
      refine List.pairwise_cons.mpr ⟨fun z hz => ?_, ih k2 fun s hs => hv s (List.mem_cons_of_mem _ hs)⟩
      obtain ⟨w, hw, rfl⟩ := List.mem_map.mp hz
      have := k1 w hw
      have := hv u List.mem_cons_self
      omega
  have := rise_len (h2 h.g h.v) (B := BY) fun k hk => by
    obtain ⟨w, hw, rfl⟩ := List.mem_map.mp hk
    exact hb w hw
  rwa [List.length_map] at this
theorem slab_length (h : Wf f) (b : FIn f BX BY) {u : Slab} (hu : u ∈ f) : u.2.2.length ≤ BY.length := spn_length (h.p u hu) fun p hp => (b.y u hu p hp).1
theorem at_length (h : Wf f) (b : FIn f BX BY) (x : Int) : (spansAt f x).length ≤ BY.length := by
  rcases spansAt_in' (f := f) (x := x) with ⟨h1, _⟩ | ⟨t, ht, _, h3⟩
  · rw [h1]; exact Nat.zero_le _
  · rw [h3]; exact slab_length h b ht
theorem FIn.mono {BX' BY' : List Int} (b : FIn f BX BY) (hx : ∀ k ∈ BX, k ∈ BX') (hy : ∀ k ∈ BY, k ∈ BY') : FIn f BX' BY' :=
  ⟨fun s hs => ⟨hx _ (b.x s hs).1, hx _ (b.x s hs).2⟩, fun s hs p hp => ⟨hy _ (b.y s hs p hp).1, hy _ (b.y s hs p hp).2⟩⟩
theorem few_of (h : Wf f) (b : FIn f BX BY) (l : BY.length ≤ 60) : Few f BY := fun s hs => ⟨Nat.le_trans (slab_length h b hs) (by omega), fun k hk => by
  unfold endsOf at hk
  obtain ⟨p, hp, h⟩ := List.mem_flatMap.mp hk
  have := b.y s hs p hp
  simp only [List.mem_cons, List.not_mem_nil, or_false] at h
  rcases h with rfl | rfl
  · exact this.1
  · exact this.2⟩
theorem mix_ok (hf : Wf f) (hg : Wf g) (bf : FIn f BX BY) (bg : FIn g BX BY) (lx : BX.length ≤ 60) (ly : BY.length ≤ 60) : MixOk f g := by
  have h1 := form_length hf bf
  have h2 := form_length hg bg
  refine ⟨BX, BY, by omega, by omega, fun k hk => ?_, by omega, few_of hf bf ly, few_of hg bg ly⟩
  unfold xsOf at hk
  obtain ⟨s, hs, h⟩ := List.mem_flatMap.mp hk
  have hb : s.1 ∈ BX ∧ s.2.1 ∈ BX := by
    rcases List.mem_append.mp hs with hs | hs
    · exact bf.x s hs
    · exact bg.x s hs
  simp only [List.mem_cons, List.not_mem_nil, or_false] at h
  rcases h with rfl | rfl
  · exact hb.1
  · exact hb.2
theorem slab_ok {bs : List Box} {B : List Int} (l : bs.length ≤ 1000) (lB : B.length ≤ 60) (h : ∀ b ∈ bs, b.1 ∈ B ∧ b.2.2.1 ∈ B) : SlabOk bs := by
  refine ⟨B, l, by omega, fun k hk => ?_⟩
  unfold bxs at hk
  obtain ⟨b, hb, h'⟩ := List.mem_flatMap.mp hk
  have := h b hb
  simp only [List.mem_cons, List.not_mem_nil, or_false] at h'
  rcases h' with rfl | rfl
  · exact this.1
  · exact this.2
theorem boxes_length (h : Wf f) (b : FIn f BX BY) (lx : BX.length ≤ 20) (ly : BY.length ≤ 20) : (boxesOf f).length ≤ 400 := by
  unfold boxesOf
  have h1 := form_length h b
  have := flat_len (f := fun s : Slab => s.2.2.map fun p => ((s.1, p.1, s.2.1, p.2) : Box)) (n := 20) (l := f) fun s hs => by
    rw [List.length_map]
    have := slab_length h b hs
    omega
  omega
theorem cross_ok (h : Wf f) (b : FIn f BX BY) (lx : BX.length ≤ 20) (ly : BY.length ≤ 20) : CrossOk f s t := by
  have h1 := form_length h b
  refine ⟨⟨[s.1, t.1] ++ BX ++ BX.map (· - 1), [s.2, t.2] ++ BY ++ BY.map (· - 1), ?_, fun k hk => ?_, ?_, fun k hk => ?_⟩, ?_, ?_, fun u hu => Nat.le_trans (slab_length h b hu) (by omega)⟩
  · rw [List.length_append, List.length_append, List.length_map]; show 2 + _ + _ < _; omega
  · unfold colsRaw at hk
    rcases List.mem_append.mp hk with hk | hk
    · exact List.mem_append_left _ (List.mem_append_left _ hk)
    · obtain ⟨u, hu, hk⟩ := List.mem_flatMap.mp hk
      have := b.x u hu
      simp only [List.mem_cons, List.not_mem_nil, or_false] at hk
      rcases hk with rfl | rfl
      · exact List.mem_append_left _ (List.mem_append_right _ this.1)
      · exact List.mem_append_right _ (List.mem_map.mpr ⟨_, this.2, rfl⟩)
  · rw [List.length_append, List.length_append, List.length_map]; show 2 + _ + _ < _; omega
  · unfold rowsRaw highs at hk
    rcases List.mem_append.mp hk with hk | hk
    · exact List.mem_append_left _ (List.mem_append_left _ hk)
    · obtain ⟨u, hu, hk⟩ := List.mem_flatMap.mp hk
      obtain ⟨r, hr, hk⟩ := List.mem_flatMap.mp hk
      have := b.y u hu r hr
      simp only [List.mem_cons, List.not_mem_nil, or_false] at hk
      rcases hk with rfl | rfl
      · exact List.mem_append_left _ (List.mem_append_right _ this.1)
      · exact List.mem_append_right _ (List.mem_map.mpr ⟨_, this.2, rfl⟩)
  · unfold colsRaw
    rw [List.length_append]
    have := flat_len (f := fun s : Slab => [s.1, s.2.1 - 1]) (n := 2) (l := f) fun s hs => Nat.le_refl _
    show 2 + _ ≤ _
    omega
  · unfold rowsRaw highs
    rw [List.length_append]
    have := flat_len (f := fun s : Slab => s.2.2.flatMap fun r => [r.1, r.2 - 1]) (n := 40) (l := f) fun s hs => by
      have h2 := flat_len (f := fun r : Pr => [r.1, r.2 - 1]) (n := 2) (l := s.2.2) fun r hr => Nat.le_refl _
      have := slab_length h b hs
      omega
    show 2 + _ ≤ _
    omega
theorem has_iff {o : Bool} : hasSq f o s = true ↔ (o = false ∧ inF f s) ∨ (o = true ∧ ¬ inF f s) := by
  unfold hasSq inF
  cases isCov (spansAt f s.1) s.2 <;> cases o <;> simp
theorem way_ok (h : Wf f) (b : FIn f BX BY) (lx : BX.length ≤ 20) (ly : BY.length ≤ 20) (hs : inF f s) (ht : inF f t) : WayOk f false s t :=
  ⟨fun n => Nat.le_trans (at_length h b n) (by omega), has_iff.mpr (.inl ⟨rfl, hs⟩), has_iff.mpr (.inl ⟨rfl, ht⟩), fun h => (by cases h), cross_ok h b lx ly, start_in hs⟩
theorem part_ok (h : Wf f) (b : FIn f BX BY) (lx : BX.length ≤ 20) (ly : BY.length ≤ 20) : PartOk f := by
  have hl := boxes_length h b lx ly
  have hb : ∀ c ∈ boxesOf f, (c.1 ∈ BX ∧ c.2.2.1 ∈ BX) ∧ c.2.1 ∈ BY ∧ c.2.2.2 ∈ BY := fun c hc => by
    obtain ⟨s, hs, r, hr, rfl⟩ := mem_boxesOf.mp hc
    exact ⟨b.x s hs, b.y s hs r hr⟩
  refine ⟨by omega, fun g hg => ?_, fun g hg n => ?_⟩
  · have G := (groups_spec (boxesOf f)).1 g hg
    exact slab_ok (by have := G.len; omega) (B := BX) (by omega) fun c hc => (hb c (G.sub c hc)).1
  · have G := (groups_spec (boxesOf f)).1 g hg
    obtain ⟨w, _, fi⟩ := slabsOf_ok (bs := g) fun c hc => (form_box h (G.sub c hc)).2.1
    have fi' : FIn (slabsOf g) (bxs g) BY := fi.mono (fun k h => h) fun k hk => by
      obtain ⟨c, hc, hk⟩ := List.mem_flatMap.mp hk
      have := (hb c (G.sub c hc)).2
      simp only [List.mem_cons, List.not_mem_nil, or_false] at hk
      rcases hk with rfl | rfl
      · exact this.1
      · exact this.2
    exact Nat.le_trans (at_length w fi' n) (by omega)
/-! ### the parts of two squares -/
theorem part_has (h : Wf f) (hs : inF f s) : ∃ g, IsPart f s g := by
  obtain ⟨b, hb, hi⟩ := (inF_boxes h s).mp hs
  obtain ⟨g, hg, hbg⟩ := (groups_spec (boxesOf f)).2 b hb
  have G := (groups_spec (boxesOf f)).1 g hg
  have hm : g ∈ (groupsOf (boxesOf f)).filter fun g => hasSq (slabsOf g) false s := List.mem_filter.mpr ⟨hg, has_iff.mpr (.inl ⟨rfl, (grp_form h G s).mpr ⟨b, hbg, hi⟩⟩)⟩
  unfold IsPart
  cases e : (groupsOf (boxesOf f)).filter fun g => hasSq (slabsOf g) false s with
  | nil => rw [e] at hm; cases hm
  | cons a r => exact ⟨a, r, rfl⟩
theorem part_eq (h : Wf f) {a b : List Box} (ha : IsPart f s a) (hb : IsPart f t b) : (∀ n, ¬ Way (inF f) s n t) ↔ slabsOf a ≠ slabsOf b := by
  have mem : ∀ {s a}, IsPart f s a → IsGrp (boxesOf f) a ∧ inF (slabsOf a) s := fun {s a} ha => by
    obtain ⟨r, hr⟩ := ha
    have hm : a ∈ (groupsOf (boxesOf f)).filter fun g => hasSq (slabsOf g) false s := by rw [hr]; exact List.mem_cons_self
    obtain ⟨h1, h2⟩ := List.mem_filter.mp hm
    rcases has_iff.mp h2 with ⟨_, h3⟩ | ⟨h3, _⟩
    · exact ⟨(groups_spec (boxesOf f)).1 a h1, h3⟩
    · cases h3
  constructor
  · intro hn e
    obtain ⟨ga, sa⟩ := mem ha
    obtain ⟨gb, tb⟩ := mem hb
    rw [← e] at tb
    obtain ⟨n, w⟩ := grp_joined h ga ((grp_form h ga s).mp sa) ((grp_form h ga t).mp tb)
    exact hn n w
  · intro hne n w
    refine hne ?_
    have e : (groupsOf (boxesOf f)).filter (fun g => hasSq (slabsOf g) false s) = (groupsOf (boxesOf f)).filter fun g => hasSq (slabsOf g) false t := by
      refine List.filter_congr fun g hg => ?_
      have G := (groups_spec (boxesOf f)).1 g hg
      have k : inF (slabsOf g) s ↔ inF (slabsOf g) t := by
        rw [grp_form h G, grp_form h G]
        exact ⟨fun z => grp_way h G z w, fun z => grp_way h G z w.symm⟩
      rw [Bool.eq_iff_iff, has_iff, has_iff, k]
    obtain ⟨r, hr⟩ := ha
    obtain ⟨r', hr'⟩ := hb
    rw [e, hr'] at hr
    rw [List.cons.inj hr |>.1]
end
/-! ### moves -/
def mvQ (c t : Int) (p : Pr) : Pr := if c = 0 then (p.1 - t, p.2 + 5) else if c = 1 then (0 - p.1 - 1, p.2) else (p.2, 0 - p.1 - 1)
section
variable {f : Form} {BX BY : List Int} {s g : Pr}
theorem inBox_mv (c t : Int) (b : Box) (p : Pr) : inBox (mvB c t b) (mvP c t p) ↔ inBox b p := by
  unfold inBox mvB mvP shiftB mirB turnB
  split
  · dsimp only; omega
  · split
    · dsimp only; omega
    · dsimp only; omega
theorem mvQ_P (c t : Int) (p : Pr) : mvQ c t (mvP c t p) = p := by
  unfold mvQ mvP
  split
  · exact Prod.ext (by dsimp only; omega) (by dsimp only; omega)
  · split
    · exact Prod.ext (by dsimp only; omega) (by dsimp only)
    · exact Prod.ext (by dsimp only) (by dsimp only; omega)
theorem mvP_Q (c t : Int) (p : Pr) : mvP c t (mvQ c t p) = p := by
  unfold mvQ mvP
  split
  · exact Prod.ext (by dsimp only; omega) (by dsimp only; omega)
  · split
    · exact Prod.ext (by dsimp only; omega) (by dsimp only)
    · exact Prod.ext (by dsimp only; omega) (by dsimp only)
theorem adj_P (c t : Int) (p q : Pr) (h : Adj p q) : Adj (mvP c t p) (mvP c t q) := by
  unfold Adj mvP at *
  split
  · dsimp only; omega
  · split
    · dsimp only; omega
    · dsimp only; omega
theorem adj_Q (c t : Int) (p q : Pr) (h : Adj p q) : Adj (mvQ c t p) (mvQ c t q) := by
  unfold Adj mvQ at *
  split
  · dsimp only; omega
  · split
    · dsimp only; omega
    · dsimp only; omega
theorem inBoxes_mv (c t : Int) (bs : List Box) (p : Pr) : inBoxes (bs.map (mvB c t)) (mvP c t p) ↔ inBoxes bs p := by
  constructor
  · rintro ⟨b, hb, hi⟩
    obtain ⟨b', hb', rfl⟩ := List.mem_map.mp hb
    exact ⟨b', hb', (inBox_mv c t b' p).mp hi⟩
  · rintro ⟨b, hb, hi⟩
    exact ⟨_, List.mem_map.mpr ⟨b, hb, rfl⟩, (inBox_mv c t b p).mpr hi⟩
theorem mv_form (h : Wf f) (c t : Int) : Wf (slabsOf ((boxesOf f).map (mvB c t))) ∧ (∀ p, inF (slabsOf ((boxesOf f).map (mvB c t))) p ↔ inF f (mvQ c t p)) ∧ FIn (slabsOf ((boxesOf f).map (mvB c t))) (bxs ((boxesOf f).map (mvB c t))) (((boxesOf f).map (mvB c t)).flatMap fun b => [b.2.1, b.2.2.2]) := by
  obtain ⟨h1, h2, h3⟩ := slabsOf_ok (bs := (boxesOf f).map (mvB c t)) fun b hb => by
    obtain ⟨b', hb', rfl⟩ := List.mem_map.mp hb
    obtain ⟨v1, v2, _⟩ := form_box h hb'
    unfold mvB shiftB mirB turnB
    split
    · dsimp only; omega
    · split
      · exact v2
      · exact v1
  refine ⟨h1, fun p => ?_, h3⟩
  rw [h2, inF_boxes h]
  have := inBoxes_mv c t (boxesOf f) (mvQ c t p)
  rw [mvP_Q] at this
  exact this
def mvXs (c t : Int) (BX BY : List Int) : List Int := if c = 0 then BX.map (· + t) else if c = 1 then BX.map (0 - ·) else BY.map (0 - ·)
def mvYs (c : Int) (BX BY : List Int) : List Int := if c = 0 then BY.map (· + (0 - 5)) else if c = 1 then BY else BX
theorem mv_in {c t : Int} {b : Box} (hx : b.1 ∈ BX ∧ b.2.2.1 ∈ BX) (hy : b.2.1 ∈ BY ∧ b.2.2.2 ∈ BY) : ((mvB c t b).1 ∈ mvXs c t BX BY ∧ (mvB c t b).2.2.1 ∈ mvXs c t BX BY) ∧ (mvB c t b).2.1 ∈ mvYs c BX BY ∧ (mvB c t b).2.2.2 ∈ mvYs c BX BY := by
  unfold mvB mvXs mvYs shiftB mirB turnB
  split
  · exact ⟨⟨List.mem_map.mpr ⟨_, hx.1, rfl⟩, List.mem_map.mpr ⟨_, hx.2, rfl⟩⟩, List.mem_map.mpr ⟨_, hy.1, rfl⟩, List.mem_map.mpr ⟨_, hy.2, rfl⟩⟩
  · split
    · exact ⟨⟨List.mem_map.mpr ⟨_, hx.2, rfl⟩, List.mem_map.mpr ⟨_, hx.1, rfl⟩⟩, hy⟩
    · exact ⟨⟨List.mem_map.mpr ⟨_, hy.2, rfl⟩, List.mem_map.mpr ⟨_, hy.1, rfl⟩⟩, hx⟩
theorem mv_length {c t : Int} (lx : BX.length ≤ 20) (ly : BY.length ≤ 20) : (mvXs c t BX BY).length ≤ 20 ∧ (mvYs c BX BY).length ≤ 20 := by
  unfold mvXs mvYs
  split
  · rw [List.length_map, List.length_map]; exact ⟨lx, ly⟩
  · split
    · rw [List.length_map]; exact ⟨lx, ly⟩
    · rw [List.length_map]; exact ⟨ly, lx⟩
theorem mv_all (h : Wf f) (b : FIn f BX BY) (lx : BX.length ≤ 20) (ly : BY.length ≤ 20) {p : Pool} (hp : PoolOk p) (hs : inF f s) (hg : inF f g) : MovOk p f s g ∧ mvRight p f s g (wayLen f false s g) = true := by
  have hb : ∀ d ∈ mvBs p f, (d.1 ∈ mvXs (mvC p) (mvT p) BX BY ∧ d.2.2.1 ∈ mvXs (mvC p) (mvT p) BX BY) ∧ d.2.1 ∈ mvYs (mvC p) BX BY ∧ d.2.2.2 ∈ mvYs (mvC p) BX BY := fun d hd => by
    obtain ⟨d', hd', rfl⟩ := List.mem_map.mp hd
    obtain ⟨u, hu, r, hr, rfl⟩ := mem_boxesOf.mp hd'
    exact mv_in (b.x u hu) (b.y u hu r hr)
  obtain ⟨l1, l2⟩ := mv_length (c := mvC p) (t := mvT p) lx ly
  obtain ⟨w, e, fi⟩ := mv_form h (mvC p) (mvT p)
  have fi' : FIn (slabsOf (mvBs p f)) (mvXs (mvC p) (mvT p) BX BY) (mvYs (mvC p) BX BY) := fi.mono (fun k hk => by
      obtain ⟨d, hd, hk⟩ := List.mem_flatMap.mp hk
      have := (hb d hd).1
      simp only [List.mem_cons, List.not_mem_nil, or_false] at hk
      rcases hk with rfl | rfl
      · exact this.1
      · exact this.2) fun k hk => by
      obtain ⟨d, hd, hk⟩ := List.mem_flatMap.mp hk
      have := (hb d hd).2
      simp only [List.mem_cons, List.not_mem_nil, or_false] at hk
      rcases hk with rfl | rfl
      · exact this.1
      · exact this.2
  have hs' : inF (slabsOf (mvBs p f)) (mvP (mvC p) (mvT p) s) := (e _).mpr (by rw [mvQ_P]; exact hs)
  have hg' : inF (slabsOf (mvBs p f)) (mvP (mvC p) (mvT p) g) := (e _).mpr (by rw [mvQ_P]; exact hg)
  refine ⟨⟨hp, slab_ok (by unfold mvBs; rw [List.length_map]; have := boxes_length h b lx ly; omega) (Nat.le_trans l1 (by omega)) fun d hd => (hb d hd).1, way_ok w fi' l1 l2 hs' hg'⟩, ?_⟩
  unfold mvRight
  refine decide_eq_true ?_
  have k1 := way_len (s := mvP (mvC p) (mvT p) s) (g := mvP (mvC p) (mvT p) g) w hs'
  have k2 := (way_len (g := g) h hs).map (T := inF (slabsOf (mvBs p f))) (f := mvP (mvC p) (mvT p)) (g := mvQ (mvC p) (mvT p)) (fun q hq => (e _).mpr (by rw [mvQ_P]; exact hq)) (fun q hq => (e q).mp hq) (adj_P _ _) (adj_Q _ _) (mvQ_P _ _)
  exact k1.uniq k2
end
end BR
/-! BrY9: lines, cells, far squares of the law. -/
namespace BR
/-! ### lines -/
structure LineI (n : Nat) (s : Pool × List Int) : Prop where
  p : PoolOk s.1
  l : s.2.length = n + 1
  r : Rise s.2
  lo : ∀ z ∈ s.2, -100000000000000000000000000000 ≤ z ∧ z ≤ s.2.getLastD 0
  hi : s.2.getLastD 0 ≤ 5 + n * 10000000000000000000000000000
theorem lineStart_le {c : Int} : -100000000000000000000000000000 ≤ lineStart c ∧ lineStart c ≤ 5 := by
  unfold lineStart
  split
  · decide
  · split
    · decide
    · decide
theorem line_step {n : Nat} {s : Pool × List Int} (h : LineI n s) : LineI (n + 1) (lineStep s) := by
  have p1 := takeS_ok (m := 3) h.p (by decide)
  have p2 := takeS_ok (m := 1000000) p1 (by decide)
  have p3 := takeS_ok (m := 3) p2 (by decide)
  have va := takeV_ok (p := s.1) (m := 3) (by decide)
  have vb := takeV_ok (p := takeS s.1 3) (m := 1000000) (by decide)
  have hlo := h.lo
  have hhi := h.hi
  have e : ∃ d : Int, 1 ≤ d ∧ d ≤ 10000000000000000000000000000 ∧ lineStep s = (takeS (takeS (takeS s.1 3) 1000000) 3, s.2 ++ [s.2.getLastD 0 + d]) := by
    refine ⟨_, ?_, ?_, rfl⟩
    · split
      · omega
      · split
        · omega
        · omega
    · split
      · omega
      · split
        · omega
        · omega
  obtain ⟨d, h1, h2, e⟩ := e
  rw [e]
  have el : (s.2 ++ [s.2.getLastD 0 + d]).getLastD 0 = s.2.getLastD 0 + d := by
    rw [List.getLastD_eq_getLast?, List.getLast?_append]
    rfl
  refine ⟨p3, ?_, ?_, fun z hz => ?_, ?_⟩
  · show (s.2 ++ _).length = _
    rw [List.length_append, h.l]
    rfl
  · refine List.pairwise_append.mpr ⟨h.r, by simp, fun a ha b hb => ?_⟩
    rw [List.mem_singleton] at hb
    have := (hlo a ha).2
    omega
  · dsimp only at hz ⊢
    rw [el]
    rcases List.mem_append.mp hz with hz | hz
    · have := hlo z hz
      omega
    · rw [List.mem_singleton] at hz
      have hne : s.2 ≠ [] := fun z => by have := h.l; rw [z] at this; simp at this
      have : s.2.getLastD 0 ∈ s.2 := by
        rw [List.getLastD_eq_getLast?, List.getLast?_eq_some_getLast hne]
        exact List.getLast_mem _
      have := hlo _ this
      omega
  · dsimp only
    rw [el]
    have : ((n + 1 : Nat) : Int) = n + 1 := by omega
    rw [this]
    omega
theorem lines_ok {p : Pool} (h : PoolOk p) : PoolOk (linesOf p).1 ∧ (linesOf p).2.length = 6 ∧ Rise (linesOf p).2 ∧ ∀ z ∈ (linesOf p).2, -1000000000000000000000000000000 ≤ z ∧ z ≤ 1000000000000000000000000000000 := by
  have h0 : LineI 0 (takeS p 3, [lineStart (takeV p 3)]) := by
    have := lineStart_le (c := takeV p 3)
    refine ⟨takeS_ok h (by decide), rfl, by simp [Rise], fun z hz => ?_, ?_⟩
    · rw [List.mem_singleton.mp hz]
      exact ⟨this.1, Int.le_refl _⟩
    · show lineStart (takeV p 3) ≤ _
      omega
  have hn : ∀ n, LineI n ((List.range n).foldl (fun s _ => lineStep s) (takeS p 3, [lineStart (takeV p 3)])) := by
    intro n
    induction n with
    | zero => exact h0
    | succ n ih => rw [fold_succ]; exact line_step ih
  have h5 := hn 5
  refine ⟨h5.p, h5.l, h5.r, fun z hz => ?_⟩
  have h1 := h5.lo z hz
  have h2 := h5.hi
  have h2' : ((List.range 5).foldl (fun s _ => lineStep s) (takeS p 3, [lineStart (takeV p 3)])).2.getLastD 0 ≤ 5 + 5 * 10000000000000000000000000000 := h2
  clear h2
  unfold linesOf at hz
  have h1 : -100000000000000000000000000000 ≤ z ∧ z ≤ ((List.range 5).foldl (fun s _ => lineStep s) (takeS p 3, [lineStart (takeV p 3)])).2.getLastD 0 := h1
  omega
/-! ### cells -/
def Cell5 (c : Pr) : Prop := (0 ≤ c.1 ∧ c.1 < 5) ∧ 0 ≤ c.2 ∧ c.2 < 5
theorem cellStep_fold {many : Int} {x : Nat} (hx : x < 5) : ∀ (n : Nat) (s : Pool × List Pr), n ≤ 5 → PoolOk s.1 → (∀ c ∈ s.2, Cell5 c) → PoolOk ((List.range n).foldl (cellStep many x) s).1 ∧ (∀ c ∈ ((List.range n).foldl (cellStep many x) s).2, Cell5 c) ∧ ((List.range n).foldl (cellStep many x) s).2.length ≤ s.2.length + n
  | 0, s, _, hp, hc => ⟨hp, hc, Nat.le_refl _⟩
  | n + 1, s, hn, hp, hc => by
    obtain ⟨h1, h2, h3⟩ := cellStep_fold hx n s (by omega) hp hc
    rw [fold_succ]
    generalize (List.range n).foldl (cellStep many x) s = t at *
    unfold cellStep
    refine ⟨takeS_ok h1 (by decide), fun c hc => ?_, ?_⟩
    · dsimp only at hc
      split at hc
      · rcases List.mem_append.mp hc with hc | hc
        · exact h2 c hc
        · rw [List.mem_singleton.mp hc]
          unfold Cell5
          dsimp only
          omega
      · exact h2 c hc
    · dsimp only
      split
      · rw [List.length_append, List.length_singleton]; omega
      · omega
theorem rowOf_fold {many : Int} : ∀ (n : Nat) (s : Pool × List Pr), n ≤ 5 → PoolOk s.1 → (∀ c ∈ s.2, Cell5 c) → PoolOk ((List.range n).foldl (rowOf many) s).1 ∧ (∀ c ∈ ((List.range n).foldl (rowOf many) s).2, Cell5 c) ∧ ((List.range n).foldl (rowOf many) s).2.length ≤ s.2.length + n * 5
  | 0, s, _, hp, hc => ⟨hp, hc, Nat.le_refl _⟩
  | n + 1, s, hn, hp, hc => by
    obtain ⟨h1, h2, h3⟩ := rowOf_fold n s (by omega) hp hc
    rw [fold_succ]
    generalize (List.range n).foldl (rowOf many) s = t at *
    unfold rowOf
    have v := takeV_ok (p := t.1) (m := 5) (by decide)
    obtain ⟨k1, k2, k3⟩ := cellStep_fold (many := many) (x := n) (by omega) (1 + takeV t.1 5).toNat (takeS t.1 5, t.2) (by omega) (takeS_ok h1 (by decide)) h2
    dsimp only at k3
    exact ⟨k1, k2, by omega⟩
theorem cells_ok {p : Pool} (h : PoolOk p) : PoolOk (cellsOf p).1 ∧ (∀ c ∈ (cellsOf p).2, Cell5 c) ∧ (cellsOf p).2.length ≤ 25 := by
  have v := takeV_ok (p := takeS p 4) (m := 5) (by decide)
  obtain ⟨k1, k2, k3⟩ := rowOf_fold (many := 1 + takeV p 4) (1 + takeV (takeS p 4) 5).toNat (takeS (takeS p 4) 5, []) (by omega) (takeS_ok (takeS_ok h (by decide)) (by decide)) (fun c hc => by cases hc)
  dsimp only [List.length_nil] at k3
  exact ⟨k1, k2, by unfold cellsOf; omega⟩
/-! ### far squares -/
section
variable {xs ys : List Int} {cells : List Pr}
theorem box_at_ok (hx : Rise xs) (hy : Rise ys) {c : Pr} (h : CellOk xs ys c) : okBox (boxAt xs ys c) := by
  have h0 := h.x0
  have h1 := h.x1
  have h2 := h.y0
  have h3 := h.y1
  exact ⟨(atZ_lt hx (by omega) (by omega) (by omega) (by omega)).mpr (by omega), (atZ_lt hy (by omega) (by omega) (by omega) (by omega)).mpr (by omega)⟩
theorem pick_in {a b c v lo hi : Int} (h1 : lo ≤ a ∧ a < hi) (h2 : lo ≤ b ∧ b < hi) (h3 : lo ≤ c ∧ c < hi) : lo ≤ pick3 a b c v ∧ pick3 a b c v < hi := by
  unfold pick3
  split
  · exact h1
  · split
    · exact h2
    · exact h3
theorem far_in {p : Pool} (hx : Rise xs) (hy : Rise ys) {c : Pr} (h : CellOk xs ys c) : inBox (boxAt xs ys c) (farSq p xs ys c).2 := by
  obtain ⟨k1, k2⟩ := box_at_ok hx hy h
  unfold boxAt at *
  dsimp only at k1 k2
  unfold inBox farSq
  dsimp only
  have a1 := pick_in (v := takeV p 3) (lo := atZ xs c.1) (hi := atZ xs (c.1 + 1)) (a := atZ xs c.1) (b := atZ xs (c.1 + 1) - 1) (c := atZ xs c.1 + (atZ xs (c.1 + 1) - atZ xs c.1) / 3) (by omega) (by omega) (by omega)
  have a2 := pick_in (v := takeV (takeS p 3) 3) (lo := atZ ys c.2) (hi := atZ ys (c.2 + 1)) (a := atZ ys c.2) (b := atZ ys (c.2 + 1) - 1) (c := atZ ys c.2 + (atZ ys (c.2 + 1) - atZ ys c.2) / 2) (by omega) (by omega) (by omega)
  exact ⟨a1.1, a1.2, a2.1, a2.2⟩
theorem farN_ok (hx : Rise xs) (hy : Rise ys) (ok : ∀ c ∈ cells, CellOk xs ys c) (ne : cells ≠ []) {p : Pool} (hp : PoolOk p) : ∀ n, PoolOk (farN xs ys cells p n).1 ∧ (farN xs ys cells p n).2.length = n ∧ ∀ s ∈ (farN xs ys cells p n).2, inBoxes (cellBs cells xs ys) s
  | 0 => ⟨hp, rfl, fun s hs => by cases hs⟩
  | n + 1 => by
    obtain ⟨h1, h2, h3⟩ := farN_ok hx hy ok ne hp n
    have e : farN xs ys cells p (n + 1) = farStep xs ys cells (farN xs ys cells p n) := by unfold farN; rw [fold_succ]
    rw [e]
    generalize farN xs ys cells p n = t at *
    have lp : 0 < cells.length := List.length_pos_iff.mpr ne
    have v := takeV_ok (p := t.1) (m := (cells.length : Nat)) (by omega)
    have hm : cells.getD (takeV t.1 (cells.length : Nat)).toNat (0, 0) ∈ cells := by
      rw [List.getD_eq_getElem?_getD, List.getElem?_eq_getElem (by omega)]
      exact List.getElem_mem _
    unfold farStep
    dsimp only
    refine ⟨?_, ?_, fun s hs => ?_⟩
    · unfold farSq
      exact takeS_ok (takeS_ok (takeS_ok h1 (by omega)) (by decide)) (by decide)
    · rw [List.length_append, h2]; rfl
    · rcases List.mem_append.mp hs with hs | hs
      · exact h3 s hs
      · rw [List.mem_singleton.mp hs]
        exact mem_cellBs.mpr ⟨_, hm, far_in hx hy (ok _ hm)⟩
/-! ### the region -/
theorem atZ_mem {xs : List Int} {i : Int} (h0 : 0 ≤ i) (h : i < xs.length) : atZ xs i ∈ xs := List.mem_of_getElem? (atZ_get h0 h)
theorem one_form (hx : Rise xs) (hy : Rise ys) {c : Pr} (h : CellOk xs ys c) : Wf (slabsOf [boxAt xs ys c]) ∧ (∀ p, inF (slabsOf [boxAt xs ys c]) p ↔ inBox (boxAt xs ys c) p) ∧ FIn (slabsOf [boxAt xs ys c]) xs ys := by
  obtain ⟨w, e, fi⟩ := slabsOf_ok (bs := [boxAt xs ys c]) fun b hb => by
    rw [List.mem_singleton.mp hb]
    exact (box_at_ok hx hy h).2
  have h0 := h.x0
  have h1 := h.x1
  have h2 := h.y0
  have h3 := h.y1
  refine ⟨w, fun p => ?_, fi.mono (fun k hk => ?_) fun k hk => ?_⟩
  · rw [e]
    unfold inBoxes
    simp
  · unfold bxs boxAt at hk
    simp only [List.flatMap_cons, List.flatMap_nil, List.append_nil, List.mem_cons, List.not_mem_nil, or_false] at hk
    rcases hk with rfl | rfl
    · exact atZ_mem (by omega) (by omega)
    · exact atZ_mem (by omega) (by omega)
  · unfold boxAt at hk
    simp only [List.flatMap_cons, List.flatMap_nil, List.append_nil, List.mem_cons, List.not_mem_nil, or_false] at hk
    rcases hk with rfl | rfl
    · exact atZ_mem (by omega) (by omega)
    · exact atZ_mem (by omega) (by omega)
theorem wf_nil : Wf [] := ⟨⟨.nil, fun s h => (by cases h)⟩, fun s h => (by cases h), fun s h => (by cases h)⟩
theorem made_snoc (pre : List Pr) (c : Pr) : madeF xs ys (pre ++ [c]) = mixed (madeF xs ys pre) (slabsOf [boxAt xs ys c]) .or := by
  unfold madeF
  rw [List.foldl_append]
  rfl
theorem made_form (hx : Rise xs) (hy : Rise ys) : ∀ (n : Nat) (cells : List Pr), cells.length = n → (∀ c ∈ cells, CellOk xs ys c) → Wf (madeF xs ys cells) ∧ (∀ p, inF (madeF xs ys cells) p ↔ inBoxes (cellBs cells xs ys) p) ∧ FIn (madeF xs ys cells) xs ys
  | n, cells, hn, ok => by
    rcases List.eq_nil_or_concat cells with rfl | ⟨pre, c, rfl⟩
    · refine ⟨wf_nil, fun p => ?_, ⟨fun s h => (by cases h), fun s h => (by cases h)⟩⟩
      show isCov [] p.2 = true ↔ _
      rw [isCov_nil, mem_cellBs]
      simp
    · rw [List.concat_eq_append] at hn ok ⊢
      obtain ⟨h1, h2, h3⟩ := made_form hx hy pre.length pre rfl fun d hd => ok d (by simp [hd])
      obtain ⟨k1, k2, k3⟩ := one_form hx hy (ok c (by simp))
      obtain ⟨m1, m2, m3⟩ := mixed_ok .or h1 k1 h3 k3
      rw [made_snoc]
      refine ⟨m1, fun p => ?_, m3⟩
      rw [m2]
      show (isCov _ p.2 || isCov _ p.2) = true ↔ _
      rw [Bool.or_eq_true]
      have a1 := h2 p
      have a2 := k2 p
      unfold inF at a1 a2
      rw [a1, a2, mem_cellBs, mem_cellBs]
      constructor
      · rintro (⟨d, hd, h⟩ | h)
        · exact ⟨d, List.mem_append_left _ hd, h⟩
        · exact ⟨c, by simp, h⟩
      · rintro ⟨d, hd, h⟩
        rcases List.mem_append.mp hd with hd | hd
        · exact .inl ⟨d, hd, h⟩
        · rw [List.mem_singleton.mp hd] at h
          exact .inr h
termination_by n => n
decreasing_by
  subst hn
  simp
theorem made_ok (hx : Rise xs) (hy : Rise ys) (lx : xs.length ≤ 20) (ly : ys.length ≤ 20) (ok : ∀ c ∈ cells, CellOk xs ys c) : MadeOk xs ys cells := by
  refine ⟨fun c hc => ⟨ok c hc, box_at_ok hx hy (ok c hc)⟩, fun pre c post e => ?_⟩
  obtain ⟨h1, h2, h3⟩ := made_form hx hy pre.length pre rfl fun d hd => ok d (by rw [e]; simp [hd])
  obtain ⟨k1, k2, k3⟩ := one_form hx hy (ok c (by rw [e]; simp))
  exact mix_ok h1 k1 h3 k3 (by omega) (by omega)
end
end BR
/-! BrYA: the way about a box. -/
namespace BR
section
variable {F : Form}
theorem SpnOk.first {r : Pr} {l : List Pr} (h : SpnOk (r :: l)) {z : Int} (hz : isCov (r :: l) z = true) : r.1 ≤ z := by
  obtain ⟨s, hs, h1, h2⟩ := isCov_iff.mp hz
  have hv := h.v r List.mem_cons_self
  rcases List.mem_cons.mp hs with e | hs
  · rw [← e]; exact h1
  · have := (List.pairwise_cons.mp h.g).1 s hs
    omega
theorem SpnOk.last {r : Pr} {l : List Pr} (h : SpnOk (l ++ [r])) {z : Int} (hz : isCov (l ++ [r]) z = true) : z < r.2 := by
  obtain ⟨s, hs, h1, h2⟩ := isCov_iff.mp hz
  have hv := h.v r (by simp)
  rcases List.mem_append.mp hs with hs | hs
  · have := (List.pairwise_append.mp h.g).2.2 s hs r (by simp)
    omega
  · rw [List.mem_singleton.mp hs] at h2; exact h2
theorem slab_of {p : Pr} (h : inF F p) : ∃ s ∈ F, (s.1 ≤ p.1 ∧ p.1 < s.2.1) ∧ isCov s.2.2 p.2 = true := by
  unfold inF at h
  rcases spansAt_in' (f := F) (x := p.1) with ⟨h1, _⟩ | ⟨t, ht, h2, h3⟩
  · rw [h1] at h; cases h
  · rw [h3] at h; exact ⟨t, ht, h2, h⟩
theorem head_y (h : Wf F) {s : Slab} (hs : s ∈ F) : isCov s.2.2 (headY s) = true ∧ ∀ z, isCov s.2.2 z = true → headY s ≤ z := by
  have hn := h.n s hs
  have hp := h.p s hs
  unfold headY
  cases e : s.2.2 with
  | nil => exact (hn e).elim
  | cons r l =>
    rw [e] at hp
    exact ⟨isCov_iff.mpr ⟨r, List.mem_cons_self, Int.le_refl _, hp.v r List.mem_cons_self⟩, fun z hz => hp.first hz⟩
theorem last_y (h : Wf F) {s : Slab} (hs : s ∈ F) : isCov s.2.2 (lastY s - 1) = true ∧ ∀ z, isCov s.2.2 z = true → z < lastY s := by
  have hn := h.n s hs
  have hp := h.p s hs
  rcases List.eq_nil_or_concat s.2.2 with e | ⟨l, r, e⟩
  · exact (hn e).elim
  · rw [List.concat_eq_append] at e
    have el : lastY s = r.2 := by unfold lastY; rw [e]; simp
    rw [el, e]
    rw [e] at hp
    have := hp.v r (by simp)
    exact ⟨isCov_iff.mpr ⟨r, by simp, by omega, by omega⟩, fun z hz => hp.last hz⟩
theorem frame_ok (h : Wf F) (hne : F ≠ []) : (∀ p, inF F p → inBox (frameOf F) p) ∧ (∃ p, inF F p ∧ p.1 = (frameOf F).1) ∧ (∃ p, inF F p ∧ p.2 = (frameOf F).2.1) ∧ (∃ p, inF F p ∧ p.1 = (frameOf F).2.2.1 - 1) ∧ ∃ p, inF F p ∧ p.2 = (frameOf F).2.2.2 - 1 := by
  have inn : ∀ {s : Slab} {x y : Int}, s ∈ F → s.1 ≤ x → x < s.2.1 → isCov s.2.2 y = true → inF F (x, y) := fun {s x y} hs h1 h2 h3 => by
    unfold inF
    rw [h.s.at hs ⟨h1, h2⟩]
    exact h3
  have nm : F.map headY ≠ [] := fun e => hne (List.map_eq_nil_iff.mp e)
  have nM : F.map lastY ≠ [] := fun e => hne (List.map_eq_nil_iff.mp e)
  unfold frameOf
  refine ⟨fun p hp => ?_, ?_, ?_, ?_, ?_⟩
  · obtain ⟨s, hs, h1, h2⟩ := slab_of hp
    have a1 : headX F ≤ s.1 := by
      cases e : F with
      | nil => exact (hne e).elim
      | cons t r =>
        rw [e] at hs
        show t.1 ≤ s.1
        rcases List.mem_cons.mp hs with e' | hs
        · rw [e']; exact Int.le_refl _
        · have := h.s.o
          rw [e] at this
          have := (List.pairwise_cons.mp this).1 s hs
          have := h.s.v t (by rw [e]; simp)
          omega
    have a2 : s.2.1 ≤ lastX F := by
      rcases List.eq_nil_or_concat F with e | ⟨r, t, e⟩
      · exact (hne e).elim
      · rw [List.concat_eq_append] at e
        have el : lastX F = t.2.1 := by unfold lastX; rw [e]; simp
        rw [el]
        rw [e] at hs
        rcases List.mem_append.mp hs with hs | hs
        · have := h.s.o
          rw [e] at this
          have := (List.pairwise_append.mp this).2.2 s hs t (by simp)
          have := h.s.v t (by rw [e]; simp)
          omega
        · rw [List.mem_singleton.mp hs]; exact Int.le_refl _
    have a3 := (head_y h hs).2 _ h2
    have a4 := (last_y h hs).2 _ h2
    have a5 := minL_le (List.mem_map.mpr ⟨s, hs, rfl⟩ : headY s ∈ F.map headY)
    have a6 := maxL_le (List.mem_map.mpr ⟨s, hs, rfl⟩ : lastY s ∈ F.map lastY)
    unfold inBox
    dsimp only
    omega
  · cases e : F with
    | nil => exact (hne e).elim
    | cons t r =>
      have ht : t ∈ F := by rw [e]; simp
      rw [← e]
      have hx : headX F = t.1 := by rw [e]; rfl
      exact ⟨(t.1, headY t), inn ht (Int.le_refl _) (h.s.v t ht) (head_y h ht).1, hx.symm⟩
  · obtain ⟨s, hs, e⟩ := List.mem_map.mp (minL_mem nm)
    exact ⟨(s.1, headY s), inn hs (Int.le_refl _) (h.s.v s hs) (head_y h hs).1, e⟩
  · rcases List.eq_nil_or_concat F with e | ⟨r, t, e⟩
    · exact (hne e).elim
    · rw [List.concat_eq_append] at e
      have ht : t ∈ F := by rw [e]; simp
      have el : lastX F = t.2.1 := by unfold lastX; rw [e]; simp
      have hv := h.s.v t ht
      exact ⟨(t.2.1 - 1, headY t), inn ht (by omega) (by omega) (head_y h ht).1, by dsimp only; rw [el]⟩
  · obtain ⟨s, hs, e⟩ := List.mem_map.mp (maxL_mem nM)
    exact ⟨(s.1, lastY s - 1), inn hs (Int.le_refl _) (h.s.v s hs) (last_y h hs).1, by dsimp only; rw [e]⟩
end
/-! ### about a box -/
section
variable {a b c d m : Int}
/-- the squares about the box: in the window, not in the box -/
def Ring (a b c d : Int) (p : Pr) : Prop := ((a - 2 ≤ p.1 ∧ p.1 < c + 2) ∧ b - 1 ≤ p.2 ∧ p.2 < d + 1) ∧ ¬ ((a ≤ p.1 ∧ p.1 < c) ∧ b ≤ p.2 ∧ p.2 < d)
def ringLow (a c m k : Int) (p : Pr) : Int := if p.1 < a then min (absI (p.2 - m)) k else if p.1 < c then k + (p.1 - (a - 1)) else k + (c - a + 1) + max 0 (k - absI (p.2 - m))
theorem ring_step {k : Int} (hac : a < c) (hbm : b ≤ m) (hmd : m < d) (hk : k = min (m - b + 1) (d - m)) {p q : Pr} (hp : Ring a b c d p) (hq : Ring a b c d q) (h : Adj p q) : ringLow a c m k q ≤ ringLow a c m k p + 1 := by
  obtain ⟨x, y⟩ := p
  obtain ⟨u, v⟩ := q
  unfold Ring at hp hq
  unfold Adj at h
  dsimp only at hp hq h
  unfold ringLow absI
  dsimp only
  rcases h with ⟨h1, h2⟩ | ⟨h1, h2⟩
  · subst h1
    by_cases k1 : x < a
    · rw [if_pos k1, if_pos k1]; omega
    · rw [if_neg k1, if_neg k1]
      by_cases k2 : x < c
      · rw [if_pos k2, if_pos k2]; omega
      · rw [if_neg k2, if_neg k2]; omega
  · subst h1
    by_cases k1 : x < a
    · rw [if_pos k1]
      by_cases k3 : u < a
      · rw [if_pos k3]; omega
      · rw [if_neg k3, if_pos (by omega)]; omega
    · rw [if_neg k1]
      by_cases k2 : x < c
      · rw [if_pos k2]
        by_cases k3 : u < a
        · rw [if_pos k3]; omega
        · rw [if_neg k3]
          by_cases k4 : u < c
          · rw [if_pos k4]; omega
          · rw [if_neg k4]; omega
      · rw [if_neg k2]
        by_cases k4 : u < c
        · rw [if_neg (by omega), if_pos k4]; omega
        · rw [if_neg (by omega), if_neg k4]; omega
theorem ring_len (hac : a < c) (hbm : b ≤ m) (hmd : m < d) : IsLen (Ring a b c d) (a - 1, m) (c, m) (some (2 * mn2 (m - b + 1) (d - m) + c - a + 1)) := by
  have go : ∀ (t : Int), (t = b - 1 ∨ t = d) → Way (Ring a b c d) (a - 1, m) (absI (m - t) + (c - (a - 1)) + absI (m - t)) (c, m) := fun t ht => by
    have s1 : Seg (Ring a b c d) (a - 1, m) (a - 1, t) := fun z z1 z2 => by unfold Ring; unfold Btw at z1 z2; dsimp only at z1 z2; omega
    have s2 : Seg (Ring a b c d) (a - 1, t) (c, t) := fun z z1 z2 => by unfold Ring; unfold Btw at z1 z2; dsimp only at z1 z2; omega
    have s3 : Seg (Ring a b c d) (c, t) (c, m) := fun z z1 z2 => by unfold Ring; unfold Btw at z1 z2; dsimp only at z1 z2; omega
    exact (((way_seg s1 (.inl rfl)).trans (way_seg s2 (.inr rfl))).trans (way_seg s3 (.inl rfl))).cast (by unfold steps absI; dsimp only; omega)
  refine ⟨⟨?_, fun n w => ?_⟩⟩
  · by_cases hk : m - b + 1 ≤ d - m
    · exact (go (b - 1) (.inl rfl)).cast (by unfold absI mn2; omega)
    · exact (go d (.inr rfl)).cast (by unfold absI mn2; omega)
  · have low : ∀ {n : Int} {q : Pr}, Way (Ring a b c d) (a - 1, m) n q → ringLow a c m (min (m - b + 1) (d - m)) q ≤ n := fun {n q} w => by
      induction w with
      | zero _ =>
        unfold ringLow absI
        dsimp only
        rw [if_pos (by omega)]
        omega
      | snoc w a1 hq ih =>
        have := ring_step hac hbm hmd rfl w.at_end hq a1
        omega
    have := low w
    unfold ringLow absI at this
    dsimp only at this
    rw [if_neg (by omega), if_neg (by omega)] at this
    unfold mn2
    omega
theorem ends_box {p q : Pr} {z : Pr} : inBoxes (endBoxes p q) z ↔ z = p ∨ z = q := by
  unfold inBoxes endBoxes inBox
  constructor
  · rintro ⟨e, he, h⟩
    simp only [List.map_cons, List.map_nil, List.mem_cons, List.not_mem_nil, or_false] at he
    rcases he with rfl | rfl
    · exact .inl (Prod.ext (by dsimp only at h; omega) (by dsimp only at h; omega))
    · exact .inr (Prod.ext (by dsimp only at h; omega) (by dsimp only at h; omega))
  · rintro (rfl | rfl)
    · exact ⟨(z.1, z.2, z.1 + 1, z.2 + 1), by simp, by dsimp only; omega⟩
    · exact ⟨(z.1, z.2, z.1 + 1, z.2 + 1), by simp, by dsimp only; omega⟩
/-- the frame's lines -/
def rX (a c : Int) : List Int := [a, c, a - 1, c + 1, a - 2, c + 2]
def rY (b d m : Int) : List Int := [b, d, m, m + 1, b - 1, d + 1]
theorem slabs_lines {bs : List Box} {BX BY : List Int} (hv : ∀ b ∈ bs, b.2.1 < b.2.2.2) (h : ∀ b ∈ bs, (b.1 ∈ BX ∧ b.2.2.1 ∈ BX) ∧ b.2.1 ∈ BY ∧ b.2.2.2 ∈ BY) : Wf (slabsOf bs) ∧ (∀ p, inF (slabsOf bs) p ↔ inBoxes bs p) ∧ FIn (slabsOf bs) BX BY := by
  obtain ⟨h1, h2, h3⟩ := slabsOf_ok hv
  refine ⟨h1, h2, h3.mono (fun k hk => ?_) fun k hk => ?_⟩
  · obtain ⟨e, he, hk⟩ := List.mem_flatMap.mp hk
    have := (h e he).1
    simp only [List.mem_cons, List.not_mem_nil, or_false] at hk
    rcases hk with rfl | rfl
    · exact this.1
    · exact this.2
  · obtain ⟨e, he, hk⟩ := List.mem_flatMap.mp hk
    have := (h e he).2
    simp only [List.mem_cons, List.not_mem_nil, or_false] at hk
    rcases hk with rfl | rfl
    · exact this.1
    · exact this.2
theorem inBoxes_one {e : Box} {p : Pr} : inBoxes [e] p ↔ inBox e p := by unfold inBoxes; simp
theorem shut_all (hac : a < c) (hbm : b ≤ m) (hmd : m < d) : WayOk (slabsOf [(a, b, c, d)]) true (a - 1, m) (c, m) ∧ wayLen (slabsOf [(a, b, c, d)]) true (a - 1, m) (c, m) = some (2 * mn2 (m - b + 1) (d - m) + c - a + 1) := by
  obtain ⟨w0, e0, f0⟩ := slabs_lines (bs := [((a, b, c, d) : Box)]) (BX := rX a c) (BY := rY b d m) (fun e he => by rw [List.mem_singleton.mp he]; dsimp only; omega) fun e he => by rw [List.mem_singleton.mp he]; simp [rX, rY]
  obtain ⟨w1, e1, f1⟩ := slabs_lines (bs := endBoxes (a - 1, m) (c, m)) (BX := rX a c) (BY := rY b d m) (fun e he => by
      simp only [endBoxes, List.map_cons, List.map_nil, List.mem_cons, List.not_mem_nil, or_false] at he
      rcases he with rfl | rfl <;> (dsimp only; omega)) fun e he => by
      simp only [endBoxes, List.map_cons, List.map_nil, List.mem_cons, List.not_mem_nil, or_false] at he
      rcases he with rfl | rfl <;> simp [rX, rY]
  have hb1 : SlabOk (endBoxes (a - 1, m) (c, m)) := slab_ok (B := rX a c) (by show 2 ≤ _; omega) (by show 6 ≤ _; omega) fun e he => by
    simp only [endBoxes, List.map_cons, List.map_nil, List.mem_cons, List.not_mem_nil, or_false] at he
    rcases he with rfl | rfl <;> simp [rX]
  obtain ⟨w2, e2, f2⟩ := mixed_ok .or w1 w0 f1 f0
  have hm1 := mix_ok w1 w0 f1 f0 (by show 6 ≤ _; omega) (by show 6 ≤ _; omega)
  have inFar : ∀ p, inF (farForm (slabsOf [(a, b, c, d)]) (a - 1, m) (c, m)) p ↔ (p = (a - 1, m) ∨ p = (c, m)) ∨ ((a ≤ p.1 ∧ p.1 < c) ∧ b ≤ p.2 ∧ p.2 < d) := fun p => by
    unfold farForm
    rw [e2]
    show (isCov _ p.2 || isCov _ p.2) = true ↔ _
    have a1 := (e1 p).trans ends_box
    have a2 := (e0 p).trans inBoxes_one
    unfold inF at a1 a2
    rw [Bool.or_eq_true, a1, a2]
    refine or_congr Iff.rfl ?_
    unfold inBox
    dsimp only
    omega
  have hne : farForm (slabsOf [(a, b, c, d)]) (a - 1, m) (c, m) ≠ [] := fun z => by
    have := (inFar (a - 1, m)).mpr (.inl (.inl rfl))
    rw [z] at this
    cases this
  have fr : frameOf (farForm (slabsOf [(a, b, c, d)]) (a - 1, m) (c, m)) = (a - 1, b, c + 1, d) := by
    obtain ⟨k0, ⟨p1, h1, q1⟩, ⟨p2, h2, q2⟩, ⟨p3, h3, q3⟩, p4, h4, q4⟩ := frame_ok w2 hne
    have i1 := k0 _ ((inFar (a - 1, m)).mpr (.inl (.inl rfl)))
    have i2 := k0 _ ((inFar (c, m)).mpr (.inl (.inr rfl)))
    have i3 := k0 _ ((inFar (a, b)).mpr (.inr (by dsimp only; omega)))
    have i4 := k0 _ ((inFar (a, d - 1)).mpr (.inr (by dsimp only; omega)))
    have g : ∀ p : Pr, inF (farForm (slabsOf [(a, b, c, d)]) (a - 1, m) (c, m)) p → (a - 1 ≤ p.1 ∧ p.1 ≤ c) ∧ b ≤ p.2 ∧ p.2 < d := fun p hp => by
      rcases (inFar p).mp hp with (rfl | rfl) | h
      · dsimp only; omega
      · dsimp only; omega
      · omega
    have j1 := g _ h1
    have j2 := g _ h2
    have j3 := g _ h3
    have j4 := g _ h4
    unfold farForm at *
    generalize frameOf (mixed (slabsOf (endBoxes (a - 1, m) (c, m))) (slabsOf [(a, b, c, d)]) .or) = fr at *
    obtain ⟨u1, u2, u3, u4⟩ := fr
    unfold inBox at i1 i2 i3 i4
    dsimp only at *
    have t1 : u1 = a - 1 := by omega
    have t2 : u2 = b := by omega
    have t3 : u3 = c + 1 := by omega
    have t4 : u4 = d := by omega
    rw [t1, t2, t3, t4]
  have wf : wideFrame (farForm (slabsOf [(a, b, c, d)]) (a - 1, m) (c, m)) = (a - 1 - 1, b - 1, c + 1 + 1, d + 1) := by unfold wideFrame; rw [fr]
  obtain ⟨w3, e3, f3⟩ := slabs_lines (bs := [((a - 1 - 1, b - 1, c + 1 + 1, d + 1) : Box)]) (BX := rX a c) (BY := rY b d m) (fun e he => by rw [List.mem_singleton.mp he]; dsimp only; omega) fun e he => by
    rw [List.mem_singleton.mp he]
    have t1 : a - 1 - 1 = a - 2 := by omega
    have t2 : c + 1 + 1 = c + 2 := by omega
    dsimp only
    rw [t1, t2]
    simp [rX, rY]
  have hb2 : SlabOk [((a - 1 - 1, b - 1, c + 1 + 1, d + 1) : Box)] := slab_ok (B := rX a c) (by show 1 ≤ _; omega) (by show 6 ≤ _; omega) fun e he => by
    rw [List.mem_singleton.mp he]
    have t1 : a - 1 - 1 = a - 2 := by omega
    have t2 : c + 1 + 1 = c + 2 := by omega
    dsimp only
    rw [t1, t2]
    simp [rX]
  obtain ⟨w4, e4, f4⟩ := mixed_ok .less w3 w0 f3 f0
  have hm2 := mix_ok w3 w0 f3 f0 (by show 6 ≤ _; omega) (by show 6 ≤ _; omega)
  have en : nearForm (slabsOf [(a, b, c, d)]) true (a - 1, m) (c, m) = mixed (slabsOf [((a - 1 - 1, b - 1, c + 1 + 1, d + 1) : Box)]) (slabsOf [(a, b, c, d)]) .less := by unfold nearForm; rw [if_pos rfl, wf]
  have inN : ∀ p, inF (nearForm (slabsOf [(a, b, c, d)]) true (a - 1, m) (c, m)) p ↔ Ring a b c d p := fun p => by
    rw [en, e4]
    show (isCov _ p.2 && !isCov _ p.2) = true ↔ _
    have a1 := (e3 p).trans inBoxes_one
    have a2 := (e0 p).trans inBoxes_one
    unfold inF at a1 a2
    rw [Bool.and_eq_true, Bool.not_eq_true', Bool.eq_false_iff, a1, Ne, a2]
    unfold inBox Ring
    dsimp only
    omega
  have hp0 : Ring a b c d (a - 1, m) := by unfold Ring; dsimp only; omega
  have hq0 : Ring a b c d (c, m) := by unfold Ring; dsimp only; omega
  have hps := (inN _).mpr hp0
  have hnot : ∀ x : Int, (x < a ∨ c ≤ x) → hasSq (slabsOf [(a, b, c, d)]) true (x, m) = true := fun x hx => has_iff.mpr (.inr ⟨rfl, fun z => by
    have := ((e0 (x, m)).trans inBoxes_one).mp z
    unfold inBox at this
    dsimp only at this
    omega⟩)
  refine ⟨⟨fun n => Nat.le_trans (at_length w0 f0 n) (by show 6 ≤ _; omega), hnot _ (.inl (by omega)), hnot _ (.inr (Int.le_refl _)), fun _ => ⟨hb1, hm1, hne, Nat.le_trans (form_length w2 f2) (by show 6 ≤ _; omega), w2.n, by rw [wf]; exact hb2, by rw [wf]; exact hm2⟩, ?_, start_in hps⟩, ?_⟩
  · rw [en]
    exact cross_ok w4 f4 (by show 6 ≤ _; omega) (by show 6 ≤ _; omega)
  · rw [← en] at w4
    have k1 := (form_len (g := (c, m)) w4 hps).iff inN
    exact k1.uniq (ring_len hac hbm hmd)
end
end BR
/-! BrYB: a turn of the law is all right. -/
namespace BR
theorem cells25 {l : List Pr} (nd : l.Nodup) (h : ∀ c ∈ l, Cell5 c) : l.length ≤ 25 := by
  have := nd_len (B := [0, 1, 2, 3, 4].flatMap fun x : Int => [0, 1, 2, 3, 4].map fun y : Int => (x, y)) nd fun c hc => by
    obtain ⟨⟨h1, h2⟩, h3, h4⟩ := h c hc
    refine List.mem_flatMap.mpr ⟨c.1, ?_, List.mem_map.mpr ⟨c.2, ?_, rfl⟩⟩
    · simp only [List.mem_cons, List.not_mem_nil, or_false]; omega
    · simp only [List.mem_cons, List.not_mem_nil, or_false]; omega
  exact this
theorem log_lt {i : Int} (h0 : 0 ≤ i) (h : i < 10000000000000000000000000000000000000000) : i.natAbs.log2 < 1920 := by
  by_cases e : i.natAbs = 0
  · rw [e]; decide
  · rw [Nat.log2_lt e]
    have h2 : i.natAbs < 2 ^ 133 := by omega
    generalize i.natAbs = n at *
    exact Nat.lt_of_lt_of_le h2 (Nat.pow_le_pow_right (by decide) (by decide))
theorem t_xs {p : Pool} (h : PoolOk p) : PoolOk (tP1 p) ∧ (tXs p).length = 6 ∧ Rise (tXs p) ∧ ∀ z ∈ tXs p, -1000000000000000000000000000000 ≤ z ∧ z ≤ 1000000000000000000000000000000 := by
  unfold tP1 tXs
  exact lines_ok h
theorem t_ys {p : Pool} (h : PoolOk (tP1 p)) : PoolOk (tP2 p) ∧ (tYs p).length = 6 ∧ Rise (tYs p) ∧ ∀ z ∈ tYs p, -1000000000000000000000000000000 ≤ z ∧ z ≤ 1000000000000000000000000000000 := by
  unfold tP2 tYs
  exact lines_ok h
theorem t_cells {p : Pool} (h : PoolOk (tP2 p)) : PoolOk (tP3 p) ∧ (∀ c ∈ (cellsOf (tP2 p)).2, Cell5 c) ∧ (cellsOf (tP2 p)).2.length ≤ 25 := by
  unfold tP3
  exact cells_ok h
theorem t_some {p : Pool} (h : PoolOk (tSome p).1 ∧ (tSome p).2.length = 3 ∧ ∀ s ∈ (tSome p).2, inBoxes (cellBs (tCells p) (tXs p) (tYs p)) s) : ∃ s0 s1 s2, (tSome p).2 = [s0, s1, s2] := by
  have := h.2.1
  generalize (tSome p).2 = l at *
  match l, this with
  | [a, b, c], _ => exact ⟨a, b, c, rfl⟩
theorem t_far {p : Pool} (h : ∀ n, PoolOk (farN (tXs p) (tYs p) (tCells p) (tP3 p) n).1 ∧ (farN (tXs p) (tYs p) (tCells p) (tP3 p) n).2.length = n ∧ ∀ s ∈ (farN (tXs p) (tYs p) (tCells p) (tP3 p) n).2, inBoxes (cellBs (tCells p) (tXs p) (tYs p)) s) : PoolOk (tSome p).1 ∧ (tSome p).2.length = 3 ∧ ∀ s ∈ (tSome p).2, inBoxes (cellBs (tCells p) (tXs p) (tYs p)) s := by
  unfold tSome
  exact h 3
theorem t_form {p : Pool} (hx : Rise (tXs p)) (hy : Rise (tYs p)) (ok : ∀ c ∈ tCells p, CellOk (tXs p) (tYs p) c) : Wf (tForm p) ∧ (∀ q, inF (tForm p) q ↔ inBoxes (cellBs (tCells p) (tXs p) (tYs p)) q) ∧ FIn (tForm p) (tXs p) (tYs p) := by
  unfold tForm
  exact made_form hx hy _ _ rfl ok
theorem law_bound {cells : List Pr} {xs ys : List Int} {s g : Pr} (hx : Rise xs) (hy : Rise ys) (ok : ∀ c ∈ cells, CellOk xs ys c) (lx : xs.length ≤ 20) (ly : ys.length ≤ 20) (cl : cells.length ≤ 25) (hs : inBoxes (cellBs cells xs ys) s) (inb : ∀ q, inBoxes (cellBs cells xs ys) q → (-1000000000000000000000000000000 ≤ q.1 ∧ q.1 ≤ 1000000000000000000000000000000) ∧ -1000000000000000000000000000000 ≤ q.2 ∧ q.2 ≤ 1000000000000000000000000000000) (i : Int) (hi : lawLen cells xs ys s g = some i) : 0 ≤ i ∧ i < 10000000000000000000000000000000000000000 := by
  unfold lawLen at hi
  have clo : Closed (lawTab cells xs ys s g) := by unfold lawTab; exact lawLinks_closed _ _ _
  have hW : ∀ k t, t ∈ nbrs (lawTab cells xs ys s g) k → steps k t ≤ 4000000000000000000000000000000 := fun k t ht => by
    have G := (law_nb (s := s) (g := g) hx hy ok).mp ht
    have b1 := inb k (G.2 k (by unfold Btw; omega) (by unfold Btw; omega))
    have b2 := inb t (G.2 t (by unfold Btw; omega) (by unfold Btw; omega))
    unfold steps absI
    omega
  have h0 : ∀ k d, gt [(s, (0 : Int))] k = some d → 0 ≤ d ∧ d ≤ (([] : Own).length : Int) * 4000000000000000000000000000000 := fun k d hk => by
    unfold gt at hk
    split at hk
    · obtain rfl := Option.some.inj hk
      exact ⟨Int.le_refl _, by simp⟩
    · cases hk
  have hl : (lawTab cells xs ys s g).length ≤ 44100 := by
    have e := congrArg List.length (lawLinks_keys (lawCols xs s g) (lawRows ys s g) (ownOf cells xs ys (lawCols xs s g) (lawRows ys s g)))
    rw [List.length_map, List.length_map] at e
    unfold lawTab
    rw [e]
    have k := ownC_len xs ys (lawCols xs s g) (lawRows ys s g) cells []
    have mX : (lawCols xs s g).length ≤ 42 := Nat.le_trans (sortU_len fun k h => h) (lcRaw_len lx)
    have mY : (lawRows ys s g).length ≤ 42 := Nat.le_trans (sortU_len fun k h => h) (lcRaw_len ly)
    have h2 : cells.length * ((lawCols xs s g).length * (lawRows ys s g).length) ≤ 25 * (42 * 42) := Nat.mul_le_mul cl (Nat.mul_le_mul mX mY)
    simp only [List.length_nil] at k
    unfold ownOf
    omega
  have hb := llGo_bound (s := s) clo (by decide) hW _ (LI.start (law_start hs)) h0 i hi
  have h1 := hb.1
  have h2 := hb.2
  clear hb hi h0 hW clo
  generalize (lawTab cells xs ys s g).length = n at *
  omega
theorem t_len {p : Pool} {s g : Pr} (hx : Rise (tXs p)) (hy : Rise (tYs p)) (ok : ∀ c ∈ tCells p, CellOk (tXs p) (tYs p) c) (hs : inBoxes (cellBs (tCells p) (tXs p) (tYs p)) s) : IsLen (inBoxes (cellBs (tCells p) (tXs p) (tYs p))) s g (tLen p (s, g)) := by
  have := law_len (g := g) hx hy ok hs
  unfold tLen
  dsimp only
  exact this
theorem t_bound {p : Pool} {s g : Pr} {i : Int} (hi : tLen p (s, g) = some i) : lawLen (tCells p) (tXs p) (tYs p) s g = some i := by
  unfold tLen at hi
  dsimp only at hi
  exact hi
theorem t_shut {p : Pool} (hac : atZ (tXs p) 0 < atZ (tXs p) 5) (hbm : atZ (tYs p) 0 < atZ (tYs p) 2) (hmd : atZ (tYs p) 2 < atZ (tYs p) 5) : okBox (tBox p) ∧ WayOk (slabsOf [tBox p]) true (tE0 p) (tE1 p) ∧ wayLen (slabsOf [tBox p]) true (tE0 p) (tE1 p) = some (tTotal p) := by
  obtain ⟨sh1, sh2⟩ := shut_all hac (Int.le_of_lt hbm) hmd
  unfold tBox tE0 tE1 tTotal
  exact ⟨⟨hac, Int.lt_trans hbm hmd⟩, sh1, sh2⟩
theorem turn_ok {p : Pool} (h : PoolOk p) : TurnOk p := by
  obtain ⟨o1, lx, hx, bx⟩ := t_xs h
  obtain ⟨o2, ly, hy, by_⟩ := t_ys o1
  obtain ⟨o3, c5, c0⟩ := t_cells o2
  have raw5 : ∀ c ∈ tRaw p, Cell5 c := fun c hc => by
    unfold tRaw at hc
    rcases List.mem_append.mp hc with hc | hc
    · exact c5 c hc
    · rw [List.mem_singleton.mp hc]
      unfold Cell5
      dsimp only
      omega
  have cell5 : ∀ c ∈ tCells p, Cell5 c := fun c hc => raw5 c (mem_sortPU.mp hc)
  have cok : ∀ c ∈ tCells p, CellOk (tXs p) (tYs p) c := fun c hc => by
    obtain ⟨⟨h1, h2⟩, h3, h4⟩ := cell5 c hc
    exact ⟨h1, by rw [lx]; omega, h3, by rw [ly]; omega⟩
  have cl : (tCells p).length ≤ 25 := cells25 sortPU_nd cell5
  have cn : tCells p ≠ [] := fun e => by
    have : (0, 0) ∈ tCells p := mem_sortPU.mpr (by unfold tRaw; simp)
    rw [e] at this
    cases this
  have far := farN_ok hx hy cok cn (p := tP3 p) o3
  have far3 := t_far far
  obtain ⟨fw, fe, ff⟩ := t_form hx hy cok
  have l20x : (tXs p).length ≤ 20 := by omega
  have l20y : (tYs p).length ≤ 20 := by omega
  have sin : ∀ s ∈ (tSome p).2, inBoxes (cellBs (tCells p) (tXs p) (tYs p)) s := far3.2.2
  have sinF : ∀ s ∈ (tSome p).2, inF (tForm p) s := fun s hs => (fe s).mpr (sin s hs)
  have ll : ∀ s ∈ (tSome p).2, ∀ g, IsLen (inBoxes (cellBs (tCells p) (tXs p) (tYs p))) s g (tLen p (s, g)) := fun s hs g => t_len hx hy cok (sin s hs)
  have eq : ∀ s ∈ (tSome p).2, ∀ g, wayLen (tForm p) false s g = tLen p (s, g) := fun s hs g => ((way_len (g := g) fw (sinF s hs)).iff fe).uniq (ll s hs g)
  have inb : ∀ q, inBoxes (cellBs (tCells p) (tXs p) (tYs p)) q → (-1000000000000000000000000000000 ≤ q.1 ∧ q.1 ≤ 1000000000000000000000000000000) ∧ -1000000000000000000000000000000 ≤ q.2 ∧ q.2 ≤ 1000000000000000000000000000000 := fun q hq => by
    obtain ⟨c, hc, h1, h2, h3, h4⟩ := mem_cellBs.mp hq
    have o := cok c hc
    have z1 := o.x0
    have z2 := o.x1
    have z3 := o.y0
    have z4 := o.y1
    unfold boxAt at h1 h2 h3 h4
    dsimp only at h1 h2 h3 h4
    have b1 := bx _ (atZ_mem (i := c.1) (by omega) (by omega))
    have b2 := bx _ (atZ_mem (i := c.1 + 1) (by omega) (by omega))
    have b3 := by_ _ (atZ_mem (i := c.2) (by omega) (by omega))
    have b4 := by_ _ (atZ_mem (i := c.2 + 1) (by omega) (by omega))
    omega
  have hac : atZ (tXs p) 0 < atZ (tXs p) 5 := (atZ_lt hx (by decide) (by decide) (by omega) (by omega)).mpr (by decide)
  have hbm : atZ (tYs p) 0 < atZ (tYs p) 2 := (atZ_lt hy (by decide) (by decide) (by omega) (by omega)).mpr (by decide)
  have hmd : atZ (tYs p) 2 < atZ (tYs p) 5 := (atZ_lt hy (by decide) (by decide) (by omega) (by omega)).mpr (by decide)
  obtain ⟨sh0, sh1, sh2⟩ := t_shut hac hbm hmd
  refine { o0 := h, o1 := o1, o2 := o2, o3 := o3, oc := fun i _ => (far i).1, lx := lx, ly := ly, c0 := c0, cb := ?cb, made := made_ok hx hy l20x l20y cok, cell := cok, cl := cl, cn := cn, sq := ?sq, len := ?len, way := ?way, eq := fun s hs g _ => eq s hs g, sz := ?sz, part := part_ok fw ff l20x l20y, isp := fun s hs => part_has fw (sinF s hs), pt := ?pt, tri := ?tri, dist := ?dist, mok := ?mok, mov := ?mov, box := sh0, shut := sh1, tot := sh2 }
  case cb =>
    intro c hc
    obtain ⟨⟨h1, h2⟩, h3, h4⟩ := raw5 c hc
    omega
  case sq =>
    exact t_some far3
  case len =>
    intro s hs g hg
    exact ⟨⟨cok, cl, l20x, l20y⟩, law_start (sin s hs)⟩
  case way =>
    intro s hs g hg
    exact way_ok fw ff l20x l20y (sinF s hs) (sinF g hg)
  case sz =>
    intro s hs g hg i hi
    have hb := law_bound hx hy cok l20x l20y cl (sin s hs) inb i (t_bound hi)
    exact log_lt hb.1 hb.2
  case pt =>
    intro s hs g hg a b ha hb
    rw [← part_eq fw ha hb]
    have L := (way_len (g := g) fw (sinF s hs))
    rw [eq s hs g] at L
    constructor
    · intro e
      rw [e] at L
      exact L.h
    · intro hn
      cases e : tLen p (s, g) with
      | none => rfl
      | some n =>
        rw [e] at L
        exact (hn n L.h.1).elim
  case tri =>
    intro s hs g hg t ht i j hi hj
    have L1 := ll s hs g
    have L2 := ll g hg t
    have L3 := ll s hs t
    rw [hi] at L1
    rw [hj] at L2
    have w := L1.h.1.trans L2.h.1
    cases e : tLen p (s, t) with
    | none => rw [e] at L3; exact (L3.h _ w).elim
    | some k => rw [e] at L3; exact ⟨k, rfl, L3.h.2 _ w⟩
  case dist =>
    intro s hs g hg i hi
    have L1 := ll s hs g
    rw [hi] at L1
    exact L1.h.1.far
  case mok =>
    intro s hs g hg
    exact (mv_all fw ff l20x l20y far3.1 (sinF s hs) (sinF g hg)).1
  case mov =>
    intro s hs g hg
    rw [← eq s hs g]
    exact (mv_all fw ff l20x l20y far3.1 (sinF s hs) (sinF g hg)).2
end BR
/-! BrX21: the law is walked. -/
namespace BR
open PySem PySem.Spec PyProof.Rows L2
theorem loc_far {xs ys : List Int} {cells : List Pr} {p : Pool} (i : Nat) : farN xs ys cells p (i + 1) = farStep xs ys cells (farN xs ys cells p i) := by
  unfold farN
  rw [fold_succ]
section
variable {P : Program} {w : World} {K : PySem.W.Frag} {mg : Str → Option Value} {base : Heap} {C : Addr}
def rLaw (K : PySem.W.Frag) : List Dt → Dt → Prop := fun ds d => ∃ ns : List Int, (∀ k, k ≤ 2 → TurnOk (poolOf ns k)) ∧ ds = [.scr K ns] ∧ d = .bl true
theorem ok_law {f : Addr} {fd : FuncData} (F : Fun K "law" "law" s_law f fd) (B : NB mg)
    (cP : CalN P w K mg base C 1 "_law_pool" (rPool K)) (cL : CalM P w K mg base C 2 "_law_lines" rLines) (cC : CalM P w K mg base C 2 "_law_cells" rCells) (cMd : CalD P w K mg base C 6 "_law_made" rMade) (cF : CalM P w K mg base C 2 "_law_far_square" rFar) (cT : CalM P w K mg base C 1 "_law_take" rTakeP)
    (cLen : CalD P w K mg base C 2 "_law_length" rLLen) (cW : CalD P w K mg base C 7 "way_length" rWay) (cPt : CalX P w K mg base C 7 "part_of" [.bl false] rPartWith) (oE : OwnD P w K mg base C 1 "__eq__" rEqR) (hn : PySem.W.findIn K (.ref C) "__ne__" = some (some (.builtin "object.__ne__"))) (hso : PySem.W.subIn K (.ref C) (.type "object") = some true)
    (cMv : CalM P w K mg base C 8 "_law_moved_right" rMovR) (oI : OwnD P w K mg base C 4 "__invert__" rTurned) (cO : OfD P w K mg base C) : FnOk P w K mg base CX0 9 f fd ["_law_script"] (spD C (rLaw K)) :=
  okD F sc_law (by rintro ds d ⟨_, _, rfl, _⟩; rfl) fun cdv A outer s H E ds d hr h => by
    obtain ⟨ns, ok, rfl, rfl⟩ := h
    let n : Nat := max 1 (min 3 ns.length)
    have hn3 : n ≤ 3 := by show max 1 (min 3 ns.length) ≤ 3; omega
    refine sds_cons (sd_forRM (n := n) (M0 := []) (ei_rangeM (ek_p (Ev.cast (ev_callB (call_max2 rfl) cd_max2 (ea_cons ev_int (ea_cons (ev_callB (call_min2 rfl) cd_min2 (ea_cons ev_int (ea_cons (ev_callB call_len_seq cd_lenS (ea_cons (ev_v 0) ea_nil) (B.h _ (by decide))) ea_nil)) (B.h _ (by decide))) ea_nil)) (B.h _ (by decide))) (congrArg Dt.int ?_)) ⟨rfl, rfl⟩) (by omega) (B.h _ (by decide))) (eg_n 1 sc_law.nd)
      (fun i ρ1 M1 => ρ1 = [some (.scr K ns), none, none, none, none, none, none, none, none, none, none, none, none, none, none, none, none, none, none, none, none] ∧ M1 = []) ⟨rfl, rfl⟩ ?_ ?_)
    · show _ = ((max 1 (min 3 ns.length) : Nat) : Int)
      split <;> split <;> omega
    rotate_left
    · rintro ρ1 M1 ⟨rfl, rfl⟩
      exact sds_cons (sd_ret ev_bl rfl)
    rintro k ρ1 M1 hk ⟨rfl, rfl⟩
    have hk2 : k ≤ 2 := by omega
    have T := ok k hk2
    clear ok
    refine ⟨[some (.scr K ns), some (.int (k : Nat)), none, none, none, none, none, none, none, none, none, none, none, none, none, none, none, none, none, none, none], rfl, ?_⟩
    refine sds_cons (sd_setN 2 (en_call cP hr (ea_cons (ev_v 0) (ea_cons (ev_v 1) ea_nil)) ⟨ns, k, by omega, rfl, rfl⟩) (fun q => ?_) sc_law.nd)
    generalize poolOf ns k = p at T
    show SDs _ _ _ [some (.scr K ns), some (.int (k : Nat)), some (.ref q), none, none, none, none, none, none, none, none, none, none, none, none, none, none, none, none, none, none] [(q, .lst (dPool p))] _
    refine sds_cons (sd_asgK (ek_tup (eka_cons (ek_callM cL hr (eka_p (ea_cons (ev_v 2) (ea_cons ev_int ea_nil)) ⟨q, 0, dPool p, [.int 5], _, _, rfl, rfl, ⟨p, T.o0, rfl, rfl, rfl, rfl⟩, (eka_cons (ek_callM cL hr (eka_p (ea_cons (ev_v 2) (ea_cons ev_int ea_nil)) ⟨q, 0, dPool (tP1 p), [.int 5], _, _, rfl, rfl, ⟨tP1 p, T.o1, rfl, rfl, rfl, rfl⟩, (eka_nil ⟨Nat.le_of_ble_eq_true rfl, _, rfl, ?_⟩)⟩)))⟩)))) (eg_t (egs_cons (eg_n 3 sc_law.nd) (egs_cons (eg_n 4 sc_law.nd) egs_nil))))
    show SDs _ _ _ [some (.scr K ns), some (.int (k : Nat)), some (.ref q), some (.lst ((tXs p).map Dt.int)), some (.lst ((tYs p).map Dt.int)), none, none, none, none, none, none, none, none, none, none, none, none, none, none, none, none] [(q, .lst (dPool (tP2 p)))] _
    refine sds_cons (sd_setK 5 (ek_op op_cat (ek_callM cC hr (eka_p (ea_cons (ev_v 2) (ea_cons ev_int (ea_cons ev_int ea_nil))) ⟨q, 0, dPool (tP2 p), [.int 5, .int 5], _, _, rfl, rfl, ⟨tP2 p, T.o2, rfl, rfl, rfl, rfl⟩, ?_⟩))) sc_law.nd)
    refine ek_p (ev_new (en_lst (ea_cons (ev_tup (ea_cons ev_int (ea_cons ev_int ea_nil))) ea_nil))) ⟨.lst ((tRaw p).map dPr), ?_, ?_⟩
    · have : (tRaw p).map dPr = (cellsOf (tP2 p)).2.map dPr ++ [dPr (0, 0)] := by unfold tRaw; rw [List.map_append]; rfl
      rw [this]
      exact od_catL (by have := T.c0; rw [List.length_map]; show _ + 1 ≤ _; omega)
    show SDs _ _ _ [some (.scr K ns), some (.int (k : Nat)), some (.ref q), some (.lst ((tXs p).map Dt.int)), some (.lst ((tYs p).map Dt.int)), some (.lst ((tRaw p).map dPr)), none, none, none, none, none, none, none, none, none, none, none, none, none, none, none] [(q, .lst (dPool (tP3 p)))] _
    refine sds_cons (sd_set 5 (ev_new (en_lc1 (own := [("_law_x", 18), ("_law_y", 19)]) (xs := tCells p) (enc := dPr) (f := dPr) (ei_lst (ev_new (en_sortedSetP hr (ev_v 5) (by have := T.c0; unfold tRaw; rw [List.length_append]; show _ + 1 < _; omega) T.cb (B.h _ (by decide)) (B.h _ (by decide))))) (eb_t (egs_cons (eb_n 18 sc_law.nd) (egs_cons (eb_n 19 sc_law.nd) egs_nil)))
      (fun c hc => ⟨[some (.scr K ns), some (.int (k : Nat)), some (.ref q), some (.lst ((tXs p).map Dt.int)), some (.lst ((tYs p).map Dt.int)), some (.lst ((tRaw p).map dPr)), none, none, none, none, none, none, none, none, none, none, none, none, some (.int c.1), some (.int c.2), none], rfl, fun _ _ _ _ _ => ev_tup (ea_cons (ev_v 18) (ea_cons (ev_v 19) ea_nil))⟩) (by have := T.cl; omega) sc_law.nd (blkOk_by (N := n_law) (sc := defScope s_law) (by decide +kernel)))) ?_ sc_law.nd)
    show SDs _ _ _ [some (.scr K ns), some (.int (k : Nat)), some (.ref q), some (.lst ((tXs p).map Dt.int)), some (.lst ((tYs p).map Dt.int)), some (.lst ((tCells p).map dPr)), none, none, none, none, none, none, none, none, none, none, none, none, none, none, none] [(q, .lst (dPool (tP3 p)))] _
    refine sds_cons (sd_set 6 (ev_call cMd hr (ea_cons (ev_v 5) (ea_cons (ev_v 3) (ea_cons (ev_v 4) ea_nil))) ⟨_, _, _, T.made, rfl, rfl⟩) ?_ sc_law.nd)
    show SDs _ _ _ [some (.scr K ns), some (.int (k : Nat)), some (.ref q), some (.lst ((tXs p).map Dt.int)), some (.lst ((tYs p).map Dt.int)), some (.lst ((tCells p).map dPr)), some (.reg (dForm (tForm p)) false), none, none, none, none, none, none, none, none, none, none, none, none, none, none] [(q, .lst (dPool (tP3 p)))] _
    have cpos : 0 < (tCells p).length := List.length_pos_iff.mpr T.cn
    have cl := T.cl
    refine sds_cons (sd_setLK 7 (k := fun ds M1 => ds = (tSome p).2.map dPr ∧ M1 = [(q, .lst (dPool (tSome p).1))]) (el_lcK (own := [("_law_place", 20)]) (xs := List.range 3) (enc := fun i : Nat => Dt.int (0 + i)) (ei_range ev_int (by decide) (hm := B.h _ (by decide))) (eb_n 20 sc_law.nd)
      (fun j ds M1 => ∃ t, t = farN (tXs p) (tYs p) (tCells p) (tP3 p) j ∧ ds = t.2.map dPr ∧ M1 = [(q, .lst (dPool t.1))] ∧ t.2.length = j) ⟨_, rfl, rfl, rfl, rfl⟩ ?_ ?_ ?_ (by decide) sc_law.nd (blkOk_by (N := n_law) (sc := defScope s_law) (by decide +kernel))) ?_)
    · rintro j ds M1 ⟨t, _, rfl, _, h4⟩
      rw [List.length_map]; exact h4
    · rintro j x ds M1 hx ⟨t, ht, rfl, rfl, h4⟩
      have hj : j < 3 := by
        have := (List.getElem?_eq_some_iff.mp hx).1
        rwa [List.length_range] at this
      have okj : PoolOk t.1 := by rw [ht]; exact T.oc j (by omega)
      have hv := takeV_ok (p := t.1) (m := ((tCells p).length : Nat)) (by omega)
      have ok1 := takeS_ok (m := ((tCells p).length : Nat)) okj (by omega)
      obtain ⟨v, hve⟩ := Int.eq_ofNat_of_zero_le hv.1
      have hvl : v < (tCells p).length := by omega
      have hcell : (tCells p)[v]? = some ((tCells p).getD v (0, 0)) := by
        rw [List.getD_eq_getElem?_getD, List.getElem?_eq_getElem hvl]; rfl
      have hco := T.cell _ (List.mem_of_getElem? hcell)
      refine ⟨[some (.scr K ns), some (.int (k : Nat)), some (.ref q), some (.lst ((tXs p).map Dt.int)), some (.lst ((tYs p).map Dt.int)), some (.lst ((tCells p).map dPr)), some (.reg (dForm (tForm p)) false), none, none, none, none, none, none, none, none, none, none, none, none, none, some (.int (0 + (x : Nat)))], rfl, fun _ _ _ _ _ => ?_⟩
      refine ek_callM cF hr (eka_cons (ek_p (ev_v 2) (eka_cons (ek_p (ev_v 3) (eka_cons (ek_p (ev_v 4) (eka_cons (ek_ixL (i := 0) (ek_p (ev_v 5) (ek_callM cT hr (eka_p (ea_cons (ev_v 2) (ea_cons (ev_callB call_len_seq cd_lenL (ea_cons (ev_v 5) ea_nil) (B.h _ (by decide))) ea_nil)) ⟨q, 0, dPool t.1, _, _, _, rfl, rfl, ⟨t.1, ((tCells p).length : Nat), okj, by omega, by omega, rfl, by rw [List.length_map], rfl, rfl⟩, ⟨dPr ((tCells p).getD v (0, 0)), ?_, ?_⟩⟩)))))))))))
      · rw [hve]
        exact od_ixL (atI_nat (f := dPr) hcell)
      · refine eka_nil ⟨q, 0, dPool (takeS t.1 ((tCells p).length : Nat)), _, _, _, rfl, rfl, ⟨takeS t.1 ((tCells p).length : Nat), tXs p, tYs p, (tCells p).getD v (0, 0), ok1, hco, rfl, rfl, rfl, rfl⟩, farStep (tXs p) (tYs p) (tCells p) t, by rw [loc_far, ← ht], ?_, ?_, ?_⟩
        · unfold farStep
          dsimp only
          rw [hve, Int.toNat_natCast, List.map_append]
          rfl
        · unfold farStep
          dsimp only
          rw [hve, Int.toNat_natCast]
          rfl
        · unfold farStep
          dsimp only
          rw [List.length_append, h4]
          rfl
    · rintro ds M1 ⟨t, ht, h2, h3, _⟩
      subst ht
      exact ⟨h2, h3⟩
    rintro ds M1 ⟨rfl, rfl⟩
    clear cpos cl
    have Tlen := T.len
    have Tway := T.way
    have Teq := T.eq
    have Tsz := T.sz
    have Tpart := T.part
    have Tisp := T.isp
    have Tpt := T.pt
    have Ttri := T.tri
    have Tdist := T.dist
    have Tmok := T.mok
    have Tmov := T.mov
    have Tbox := T.box
    have Tshut := T.shut
    have Ttot := T.tot
    have lx := T.lx
    have ly := T.ly
    obtain ⟨s0, s1, s2, Tsq⟩ := T.sq
    clear T
    rw [Tsq] at Tlen Tway Teq Tsz Tisp Tpt Ttri Tdist Tmok Tmov
    rw [Tsq]
    generalize (tSome p).1 = p4 at *
    clear Tsq
    show SDs _ _ _ [some (.scr K ns), some (.int (k : Nat)), some (.ref q), some (.lst ((tXs p).map Dt.int)), some (.lst ((tYs p).map Dt.int)), some (.lst ((tCells p).map dPr)), some (.reg (dForm (tForm p)) false), some (.lst ([s0, s1, s2].map dPr)), none, none, none, none, none, none, none, none, none, none, none, none, none] [(q, .lst (dPool p4))] _
    refine sds_cons (sd_setK 8 (ek_nd0 fun qd => ?_) sc_law.nd)
    show SDs _ _ _ [some (.scr K ns), some (.int (k : Nat)), some (.ref q), some (.lst ((tXs p).map Dt.int)), some (.lst ((tYs p).map Dt.int)), some (.lst ((tCells p).map dPr)), some (.reg (dForm (tForm p)) false), some (.lst ([s0, s1, s2].map dPr)), some (.ref qd), none, none, none, none, none, none, none, none, none, none, none, none] [(q, .lst (dPool p4)), (qd, .nd w qd (dueOf (tLen p) (duePr [s0, s1, s2] [])))] _
    refine sds_cons (sd_forS (xs := [s0, s1, s2]) (enc := dPr) (ei_lst (ev_v 7)) (eg_n 9 sc_law.nd) (fun _ => [some (.scr K ns), some (.int (k : Nat)), some (.ref q), some (.lst ((tXs p).map Dt.int)), some (.lst ((tYs p).map Dt.int)), some (.lst ((tCells p).map dPr)), some (.reg (dForm (tForm p)) false), some (.lst ([s0, s1, s2].map dPr)), some (.ref qd), none, none, none, none, none, none, none, none, none, none, none, none]) (fun pre => [(q, .lst (dPool p4)), (qd, .nd w qd (dueOf (tLen p) (duePr [s0, s1, s2] pre)))]) .refl rfl (fun pre s post epre => ⟨[some (.scr K ns), some (.int (k : Nat)), some (.ref q), some (.lst ((tXs p).map Dt.int)), some (.lst ((tYs p).map Dt.int)), some (.lst ((tCells p).map dPr)), some (.reg (dForm (tForm p)) false), some (.lst ([s0, s1, s2].map dPr)), some (.ref qd), some (dPr s), none, none, none, none, none, none, none, none, none, none, none], rfl, ?_⟩) ?_)
    · have hs : s ∈ [s0, s1, s2] := by rw [epre]; simp
      have lp : pre.length ≤ 3 := by
        have := congrArg List.length epre
        rw [List.length_append] at this
        simp only [List.length_cons, List.length_nil] at this
        omega
      have lpp : (duePr [s0, s1, s2] pre).length ≤ 9 := by
        unfold duePr
        refine Nat.le_trans (flat_len (n := 3) fun x _ => by simp) ?_
        omega
      rw [duePr_snoc]
      refine sds_cons (sd_forS (xs := [s0, s1, s2]) (enc := dPr) (ei_lst (ev_v 7)) (eg_n 10 sc_law.nd) (fun _ => [some (.scr K ns), some (.int (k : Nat)), some (.ref q), some (.lst ((tXs p).map Dt.int)), some (.lst ((tYs p).map Dt.int)), some (.lst ((tCells p).map dPr)), some (.reg (dForm (tForm p)) false), some (.lst ([s0, s1, s2].map dPr)), some (.ref qd), some (dPr s), none, none, none, none, none, none, none, none, none, none, none]) (fun rpre => [(q, .lst (dPool p4)), (qd, .nd w qd (dueOf (tLen p) (duePr [s0, s1, s2] pre ++ rpre.map fun g => (s, g))))]) .refl (by rw [List.map_nil, List.append_nil]) (fun rpre g rpost er => ⟨[some (.scr K ns), some (.int (k : Nat)), some (.ref q), some (.lst ((tXs p).map Dt.int)), some (.lst ((tYs p).map Dt.int)), some (.lst ((tCells p).map dPr)), some (.reg (dForm (tForm p)) false), some (.lst ([s0, s1, s2].map dPr)), some (.ref qd), some (dPr s), some (dPr g), none, none, none, none, none, none, none, none, none, none], rfl, ?_⟩) (sds_nil (nx_of rfl)))
      have hg : g ∈ [s0, s1, s2] := by rw [er]; simp
      have lr : rpre.length ≤ 3 := by
        have := congrArg List.length er
        rw [List.length_append] at this
        simp only [List.length_cons, List.length_nil] at this
        omega
      have ll : (dueOf (tLen p) (duePr [s0, s1, s2] pre ++ rpre.map fun g => (s, g))).length < 1000 := by
        have := dueOf_len (tLen p) (duePr [s0, s1, s2] pre ++ rpre.map fun g => (s, g)) []
        unfold dueOf
        rw [List.length_append, List.length_map, List.length_nil] at this
        omega
      rw [List.map_append, List.map_singleton, ← List.append_assoc, dueOf_snoc]
      generalize dueOf (tLen p) (duePr [s0, s1, s2] pre ++ rpre.map fun g => (s, g)) = es at ll
      refine sds_cons (sd_ndPut 1 (p := (s, g)) (b := tLen p (s, g)) hr (ev_v 8) (ev_tup (ea_cons (ev_v 9) (ea_cons (ev_v 10) ea_nil))) (ev_call cLen hr (ea_cons (ev_v 5) (ea_cons (ev_v 3) (ea_cons (ev_v 4) (ea_cons (ev_v 9) (ea_cons (ev_v 10) ea_nil))))) ⟨_, _, _, s, g, Tlen s hs g hg, rfl, rfl⟩) rfl ll ?_)
      have hget : gt2 (pt2 es (s, g) (tLen p (s, g))) (s, g) = some (tLen p (s, g)) := by rw [gt2_pt2, if_pos rfl]
      show SDs _ _ _ [some (.scr K ns), some (.int (k : Nat)), some (.ref q), some (.lst ((tXs p).map Dt.int)), some (.lst ((tYs p).map Dt.int)), some (.lst ((tCells p).map dPr)), some (.reg (dForm (tForm p)) false), some (.lst ([s0, s1, s2].map dPr)), some (.ref qd), some (dPr s), some (dPr g), none, none, none, none, none, none, none, none, none, none] [(q, .lst (dPool p4)), (qd, .nd w qd (pt2 es (s, g) (tLen p (s, g))))] _
      generalize pt2 es (s, g) (tLen p (s, g)) = es2 at hget
      have getE : ∀ {pos pt p1 p2 : Pos} {z : Nat}, Ev (cxOf CX0 P w K mg base n_law "law" (defScope s_law) f cdv A outer ‹Shared› H E).nox C [some (.scr K ns), some (.int (k : Nat)), some (.ref q), some (.lst ((tXs p).map Dt.int)), some (.lst ((tYs p).map Dt.int)), some (.lst ((tCells p).map dPr)), some (.reg (dForm (tForm p)) false), some (.lst ([s0, s1, s2].map dPr)), some (.ref qd), some (dPr s), some (dPr g), none, none, none, none, none, none, none, none, none, none] [(q, .lst (dPool p4)), (qd, .nd w qd es2)] (.Subscript (.Name "_law_due" p1) (.Tuple [.Name "_law_start" p2, .Name "_law_goal" pt] z pos) pos) (dOI (tLen p (s, g))) := fun {_ _ _ _ _} => ev_ndGet 1 (p := (s, g)) hr (ev_v 8) (ev_tup (ea_cons (ev_v 9) (ea_cons (ev_v 10) ea_nil))) rfl hget
      clear getE
      refine sds_cons (sd_if (k := false) (EvT.cast' (et_neStr (i := reprT (tLen p (s, g))) (j := reprT (tLen p (s, g))) (ev_callB call_repr_oi (cd_repr (Tsz s hs g hg)) (ea_cons (Ev.cast (ev_call cW hr (ea_cons (ev_v 6) (ea_cons (ev_v 9) (ea_cons (ev_v 10) ea_nil))) ⟨_, false, s, g, Tway s hs g hg, rfl, rfl⟩) (congrArg dOI (Teq s hs g hg))) ea_nil) (B.h _ (by decide))) (ev_callB call_repr_oi (cd_repr (Tsz s hs g hg)) (ea_cons (ev_ndGet 1 (p := (s, g)) hr (ev_v 8) (ev_tup (ea_cons (ev_v 9) (ea_cons (ev_v 10) ea_nil))) rfl hget) ea_nil) (B.h _ (by decide)))) (by simp)) (fun h => nomatch h) fun _ => sds_nil ?_)
      obtain ⟨ga, hga⟩ := Tisp s hs
      obtain ⟨gb, hgb⟩ := Tisp g hg
      have key := Tpt s hs g hg ga gb hga hgb
      refine sds_cons (sd_if (k := false) (EvT.cast' (et_neB (ev_isN (ev_ndGet 1 (p := (s, g)) hr (ev_v 8) (ev_tup (ea_cons (ev_v 9) (ea_cons (ev_v 10) ea_nil))) rfl hget)) (ev_neR oE hn hso hr (ev_callX cPt hr (ea_cons (ev_v 6) (ea_cons (ev_v 9) ea_nil)) ⟨tForm p, s, ga, Tpart, hga, rfl, rfl⟩) (ev_callX cPt hr (ea_cons (ev_v 6) (ea_cons (ev_v 10) ea_nil)) ⟨tForm p, g, gb, Tpart, hgb, rfl, rfl⟩) ⟨_, _, _, _, rfl, rfl⟩)) ?_) (fun h => nomatch h) fun _ => sds_nil (sds_nil (nx_of rfl)))
      rw [isNon_oi]
      by_cases h1 : tLen p (s, g) = none
      · have := key.mp h1
        simp [h1, this]
      · have h2 : slabsOf ga = slabsOf gb := Classical.byContradiction fun z => h1 (key.mpr z)
        simp [h1, h2]
    have hgetA : ∀ a ∈ [s0, s1, s2], ∀ b ∈ [s0, s1, s2], gt2 (dueOf (tLen p) (duePr [s0, s1, s2] [s0, s1, s2])) (a, b) = some (tLen p (a, b)) := fun a ha b hb => dueOf_get (tLen p) (a, b) _ [] (.inl (mem_duePr.mpr ⟨ha, hb⟩))
    generalize dueOf (tLen p) (duePr [s0, s1, s2] [s0, s1, s2]) = es at hgetA
    have m0 : s0 ∈ [s0, s1, s2] := by simp
    have m1 : s1 ∈ [s0, s1, s2] := by simp
    have m2 : s2 ∈ [s0, s1, s2] := by simp
    refine sds_cons (sd_asg (d := .lst [dOI (tLen p (s0, s1)), dOI (tLen p (s1, s2)), dOI (tLen p (s0, s2))]) (ev_new (en_lst (ea_cons (ev_ndGet 1 (p := (s0, s1)) hr (ev_v 8) (ev_tup (ea_cons (ev_ixL (d := dPr s0) (ev_v 7) ev_int rfl) (ea_cons (ev_ixL (d := dPr s1) (ev_v 7) ev_int rfl) ea_nil))) rfl (hgetA _ m0 _ m1)) (ea_cons (ev_ndGet 1 (p := (s1, s2)) hr (ev_v 8) (ev_tup (ea_cons (ev_ixL (d := dPr s1) (ev_v 7) ev_int rfl) (ea_cons (ev_ixL (d := dPr s2) (ev_v 7) ev_int rfl) ea_nil))) rfl (hgetA _ m1 _ m2)) (ea_cons (ev_ndGet 1 (p := (s0, s2)) hr (ev_v 8) (ev_tup (ea_cons (ev_ixL (d := dPr s0) (ev_v 7) ev_int rfl) (ea_cons (ev_ixL (d := dPr s2) (ev_v 7) ev_int rfl) ea_nil))) rfl (hgetA _ m0 _ m2)) ea_nil))))) (eg_l (egs_cons (eg_n 11 sc_law.nd) (egs_cons (eg_n 12 sc_law.nd) (egs_cons (eg_n 13 sc_law.nd) egs_nil)))) rfl ?_)
    refine SDs.drop (M := [(q, .lst (dPool p4))]) (N := [(qd, .nd w qd es)]) ?_
    show SDs _ _ _ [some (.scr K ns), some (.int (k : Nat)), some (.ref q), some (.lst ((tXs p).map Dt.int)), some (.lst ((tYs p).map Dt.int)), some (.lst ((tCells p).map dPr)), some (.reg (dForm (tForm p)) false), some (.lst ([s0, s1, s2].map dPr)), some (.ref qd), none, none, some (dOI (tLen p (s0, s1))), some (dOI (tLen p (s1, s2))), some (dOI (tLen p (s0, s2))), none, none, none, none, none, none, none] [(q, .lst (dPool p4))] _
    have tri := Ttri s0 m0 s1 m1 s2 m2
    have dist := Tdist s0 m0 s1 m1
    have mok := Tmok s0 m0 s1 m1
    have mov := Tmov s0 m0 s1 m1
    clear Tlen Tway Teq Tsz Tpart Tisp Tpt Ttri Tdist Tmok Tmov hgetA
    generalize tLen p (s0, s1) = o1 at *
    generalize tLen p (s1, s2) = o2 at *
    generalize tLen p (s0, s2) = o3 at *
    refine sds_cons (sd_if (k := false) ?_ (fun h => nomatch h) fun _ => sds_nil ?_)
    · cases o1 with
      | none => exact EvT.cast' (EvW.t (ew_and (k2 := false) (et_notN (d := .non) (ev_v 11)) fun h => (by cases h))) rfl
      | some i => cases o2 with
        | none => exact EvT.cast' (EvW.t (ew_and (et_notN (d := .int i) (ev_v 11)) fun _ => ew_and (k2 := false) (et_notN (d := .non) (ev_v 12)) fun h => (by cases h))) rfl
        | some j =>
          obtain ⟨t, ht, hle⟩ := tri i j rfl rfl
          subst ht
          exact EvT.cast' (EvW.t (ew_and (et_notN (d := .int i) (ev_v 11)) fun _ => ew_and (et_notN (d := .int j) (ev_v 12)) fun _ => ew_and1 (et_gt (i := t) (j := i + j) (ev_v 13) (ev_add (i := i) (j := j) (ev_v 11) (ev_v 12))))) (by simp [isNon]; omega)
    refine sds_cons (SD.mono (P' := { nx := fun ρ' M' => ∃ ρ1, Le ρ1 ρ' ∧ (ρ1 = [some (.scr K ns), some (.int (k : Nat)), some (.ref q), some (.lst ((tXs p).map Dt.int)), some (.lst ((tYs p).map Dt.int)), some (.lst ((tCells p).map dPr)), some (.reg (dForm (tForm p)) false), some (.lst ([s0, s1, s2].map dPr)), none, none, none, some (dOI o1), none, none, none, none, none, none, none, none, none] ∧ M' = [(q, .lst (dPool p4))]), rt := fun _ _ => False, bk := fun _ _ => False, ct := fun _ _ => False }) ?_ ?_ (fun _ _ z => z.elim) (fun _ _ z => z.elim) (fun _ _ z => z.elim))
    · refine sd_if (k := !isNon (dOI o1)) (et_notN (ev_v 11)) (fun h => ?_) fun h => sds_nil (nx_of rfl)
      cases o1 with
      | none => cases h
      | some i =>
        obtain ⟨d1, d2⟩ := dist i rfl
        refine sds_cons (sd_set 14 (d := .int (steps s0 s1)) (ev_add (ev_callB call_abs cd_abs (ea_cons (ev_sub (ev_ixT (ds := [.int s0.1, .int s0.2]) (ev_ixL (d := dPr s0) (ev_v 7) ev_int rfl) ev_int) (ev_ixT (ds := [.int s1.1, .int s1.2]) (ev_ixL (d := dPr s1) (ev_v 7) ev_int rfl) ev_int)) ea_nil) (B.h _ (by decide))) (ev_callB call_abs cd_abs (ea_cons (ev_sub (ev_ixT (ds := [.int s0.1, .int s0.2]) (ev_ixL (d := dPr s0) (ev_v 7) ev_int rfl) ev_int) (ev_ixT (ds := [.int s1.1, .int s1.2]) (ev_ixL (d := dPr s1) (ev_v 7) ev_int rfl) ev_int)) ea_nil) (B.h _ (by decide)))) ?_ sc_law.nd)
        refine sds_cons (sd_if (k := false) (EvT.cast' (EvW.t (ew_or (et_lt (i := i) (j := steps s0 s1) (ev_v 11) (ev_v 14)) fun _ => ew_or1 (et_neI (ev_mod (ev_sub (i := i) (j := steps s0 s1) (ev_v 11) (ev_v 14)) ev_int (by decide)) ev_int))) ?_) (fun h => nomatch h) fun _ => sds_nil (sds_nil (nx_of rfl)))
        simp [d2]
        omega
    rintro ρ2 M2 ⟨ρ1, le, rfl, rfl⟩
    refine SDs.le ?_ le
    clear le
    refine sds_cons (sd_ifK (ekt_not (ekt_val (ek_callM cMv hr (eka_p (ea_cons (ev_v 2) (ea_cons (ev_v 6) (ea_cons (ev_ixL (d := dPr s0) (ev_v 7) ev_int rfl) (ea_cons (ev_ixL (d := dPr s1) (ev_v 7) ev_int rfl) (ea_cons (ev_v 11) ea_nil))))) ⟨q, 0, dPool p4, _, _, _, rfl, rfl, ⟨p4, tForm p, s0, s1, o1, mok, rfl, rfl, rfl, rfl⟩, true, by rw [mov], And.intro (fun h => nomatch h) fun _ => sds_nil ?_⟩)))))
    have tx : ∀ {i : Int}, 0 ≤ i → i < 6 → atI ((tXs p).map Dt.int) i = some (.int (atZ (tXs p) i)) := fun h0 h1 => atZ_at h0 (by rw [lx]; exact h1)
    have ty : ∀ {i : Int}, 0 ≤ i → i < 6 → atI ((tYs p).map Dt.int) i = some (.int (atZ (tYs p) i)) := fun h0 h1 => atZ_at h0 (by rw [ly]; exact h1)
    refine sds_cons (sd_set 15 (d := .reg (dForm (slabsOf [tBox p])) true) (ev_invR oI hr (ev_of cO hr (b := tBox p) (ev_tup (ea_cons (ev_ixL (ev_v 3) ev_int (tx (by decide) (by decide))) (ea_cons (ev_ixL (ev_v 4) ev_int (ty (by decide) (by decide))) (ea_cons (ev_ixL (ev_v 3) (ev_neg ev_int) (at_last6 lx)) (ea_cons (ev_ixL (ev_v 4) (ev_neg ev_int) (at_last6 ly)) ea_nil))))) Tbox) ⟨_, false, rfl, rfl⟩) ?_ sc_law.nd)
    refine sds_cons (sd_set 16 (d := .lst [dPr (tE0 p), dPr (tE1 p)]) (ev_new (en_lst (ea_cons (ev_tup (ea_cons (ev_sub (ev_ixL (ev_v 3) ev_int (tx (by decide) (by decide))) ev_int) (ea_cons (ev_ixL (ev_v 4) ev_int (ty (by decide) (by decide))) ea_nil))) (ea_cons (ev_tup (ea_cons (ev_ixL (ev_v 3) (ev_neg ev_int) (at_last6 lx)) (ea_cons (ev_ixL (ev_v 4) ev_int (ty (by decide) (by decide))) ea_nil))) ea_nil)))) ?_ sc_law.nd)
    refine sds_cons (sd_set 17 (d := .int (tTotal p)) (ev_add (ev_sub (ev_add (ev_mulS ev_int (ev_callB (call_min2 rfl) cd_min2 (ea_cons (ev_add (ev_sub (ev_ixL (ev_v 4) ev_int (ty (by decide) (by decide))) (ev_ixL (ev_v 4) ev_int (ty (by decide) (by decide)))) ev_int) (ea_cons (ev_sub (ev_ixL (ev_v 4) (ev_neg ev_int) (at_last6 ly)) (ev_ixL (ev_v 4) ev_int (ty (by decide) (by decide)))) ea_nil)) (B.h _ (by decide))) (.inl ⟨by decide, by decide⟩)) (ev_ixL (ev_v 3) (ev_neg ev_int) (at_last6 lx))) (ev_ixL (ev_v 3) ev_int (tx (by decide) (by decide)))) ev_int) ?_ sc_law.nd)
    refine sds_cons (sd_if (k := false) (EvT.cast' (et_neI (i := tTotal p) (j := tTotal p) (Ev.cast (ev_call cW hr (ea_cons (ev_v 15) (ea_cons (ev_ixL (d := dPr (tE0 p)) (ev_v 16) ev_int rfl) (ea_cons (ev_ixL (d := dPr (tE1 p)) (ev_v 16) ev_int rfl) ea_nil))) ⟨_, true, _, _, Tshut, rfl, rfl⟩) (by rw [Ttot]; rfl)) (ev_v 17)) (by simp)) (fun h => nomatch h) fun _ => sds_nil ?_)
    refine SDs.drop (M := []) (N := [(q, .lst (dPool (takeS (takeS p4 9) 3)))]) (sds_nil ?_)
    exact ⟨_, by repeat (first | exact Le.nil | apply Le.some | apply Le.none), rfl, rfl⟩
end
end BR
/-! BrH2: the defs joined (printed by genH2.py). -/
namespace BR
open PySem PySem.Spec PyProof.Rows L2
theorem getD {K : PySem.W.Frag} (c : He5.SaysA fa fn K) (i : Nat) {x qual : Str} {st : Stmt} {at_ : PySem.W.Frag → Addr} {kwd : List (Str × He.Dv)} (h : fn[i]? = some ⟨at_, x, qual, defArgs st, defBody st, defScope st, [], kwd⟩) : ∃ fd, FunD K x qual (defArgs st) (defBody st) (defScope st) [] (kwd.map fun q => (q.1, q.2.v K)) (at_ K) fd := c.def_ i h
theorem getF {K : PySem.W.Frag} (c : He5.SaysA fa fn K) (i : Nat) {x qual : Str} {st : Stmt} {at_ : PySem.W.Frag → Addr} {kwd : List (Str × He.Dv)} (h : fn[i]? = some ⟨at_, x, qual, defArgs st, defBody st, defScope st, [], kwd⟩) : ∃ fd, Fun K x qual st (at_ K) fd := by
  obtain ⟨fd, F⟩ := c.def_ i h
  exact ⟨fd, He5.fun_of F⟩
theorem cread_ok {K : PySem.W.Frag} {C : Addr} (h : PySem.W.readsIn K C (.type "type") = true) (h2 : PySem.W.specialIn K (.ref C) "__getattribute__" = some (some (.builtin "type.__getattribute__"))) : ClX.CRead K C (.type "type") := ⟨h, h2⟩
theorem facts {P : Program} {w : World} {K : PySem.W.Frag} {h : PySem.Heap} {mg : Str → Option Value} {f : Addr} (X : K.In h) (G : h.Ns mainGlobals mg) (c : He5.SaysA fa fn K) (cx : exB K = true) (hfa : mg ("law" : Str) = some (.ref f)) :
    ∃ fd : FuncData, (∀ (s : Shared) (v : Value), BindsTo s fd ⟨[v], []⟩ [("_law_script", v)]) ∧ ∀ base : PySem.Heap, FnOk P w K mg base CX0 9 f fd ["_law_script"] (spD (He.ga K "Region") (rLaw K)) := by
  obtain ⟨fd0, F_merged⟩ := getF c 0 (x := "merged") (qual := "merged") (st := s_merged) (at_ := fun K => He.ga K "merged") (kwd := []) rfl
  obtain ⟨fd1, F_is_covered⟩ := getF c 1 (x := "is_covered") (qual := "is_covered") (st := s_is_covered) (at_ := fun K => He.ga K "is_covered") (kwd := []) rfl
  obtain ⟨fd2, F_is_wanted⟩ := getF c 2 (x := "is_wanted") (qual := "is_wanted") (st := s_is_wanted) (at_ := fun K => He.ga K "is_wanted") (kwd := []) rfl
  obtain ⟨fd3, F_combined⟩ := getF c 3 (x := "combined") (qual := "combined") (st := s_combined) (at_ := fun K => He.ga K "combined") (kwd := []) rfl
  obtain ⟨fd4, F_holds_span⟩ := getF c 4 (x := "holds_span") (qual := "holds_span") (st := s_holds_span) (at_ := fun K => He.ga K "holds_span") (kwd := []) rfl
  obtain ⟨fd5, F_spans_at⟩ := getF c 5 (x := "spans_at") (qual := "spans_at") (st := s_spans_at) (at_ := fun K => He.ga K "spans_at") (kwd := []) rfl
  obtain ⟨fd6, F_tidy⟩ := getF c 6 (x := "tidy") (qual := "tidy") (st := s_tidy) (at_ := fun K => He.ga K "tidy") (kwd := []) rfl
  obtain ⟨fd7, F_cuts_of⟩ := getF c 7 (x := "cuts_of") (qual := "cuts_of") (st := s_cuts_of) (at_ := fun K => He.ga K "cuts_of") (kwd := []) rfl
  obtain ⟨fd8, F_slabs_of⟩ := getF c 8 (x := "slabs_of") (qual := "slabs_of") (st := s_slabs_of) (at_ := fun K => He.ga K "slabs_of") (kwd := []) rfl
  obtain ⟨fd9, F_boxes_of⟩ := getF c 9 (x := "boxes_of") (qual := "boxes_of") (st := s_boxes_of) (at_ := fun K => He.ga K "boxes_of") (kwd := []) rfl
  obtain ⟨fd10, F_mixed⟩ := getF c 10 (x := "mixed") (qual := "mixed") (st := s_mixed) (at_ := fun K => He.ga K "mixed") (kwd := []) rfl
  obtain ⟨fd11, F_frame_of⟩ := getF c 11 (x := "frame_of") (qual := "frame_of") (st := s_frame_of) (at_ := fun K => He.ga K "frame_of") (kwd := []) rfl
  obtain ⟨fd12, F_is_integer⟩ := getF c 12 (x := "is_integer") (qual := "is_integer") (st := s_is_integer) (at_ := fun K => He.ga K "is_integer") (kwd := []) rfl
  obtain ⟨fd13, F_are_integers⟩ := getF c 13 (x := "are_integers") (qual := "are_integers") (st := s_are_integers) (at_ := fun K => He.ga K "are_integers") (kwd := []) rfl
  obtain ⟨fd14, F_is_square⟩ := getF c 14 (x := "is_square") (qual := "is_square") (st := s_is_square) (at_ := fun K => He.ga K "is_square") (kwd := []) rfl
  obtain ⟨fd15, F_is_box⟩ := getF c 15 (x := "is_box") (qual := "is_box") (st := s_is_box) (at_ := fun K => He.ga K "is_box") (kwd := []) rfl
  obtain ⟨fd16, F_check_square⟩ := getF c 16 (x := "check_square") (qual := "check_square") (st := s_check_square) (at_ := fun K => He.ga K "check_square") (kwd := []) rfl
  obtain ⟨fd17, F_check_box⟩ := getF c 17 (x := "check_box") (qual := "check_box") (st := s_check_box) (at_ := fun K => He.ga K "check_box") (kwd := []) rfl
  obtain ⟨fd18, F_check_region⟩ := getF c 18 (x := "check_region") (qual := "check_region") (st := s_check_region) (at_ := fun K => He.ga K "check_region") (kwd := []) rfl
  obtain ⟨fd19, F_united⟩ := getF c 19 (x := "united") (qual := "united") (st := s_united) (at_ := fun K => He.ga K "united") (kwd := []) rfl
  obtain ⟨fd20, F_turned_out⟩ := getF c 20 (x := "turned_out") (qual := "turned_out") (st := s_turned_out) (at_ := fun K => He.ga K "turned_out") (kwd := []) rfl
  obtain ⟨fd21, F_check_flag⟩ := getF c 21 (x := "check_flag") (qual := "check_flag") (st := s_check_flag) (at_ := fun K => He.ga K "check_flag") (kwd := []) rfl
  obtain ⟨fd22, F_are_linked⟩ := getF c 22 (x := "are_linked") (qual := "are_linked") (st := s_are_linked) (at_ := fun K => He.ga K "are_linked") (kwd := []) rfl
  obtain ⟨fd23, F_groups_of⟩ := getF c 23 (x := "groups_of") (qual := "groups_of") (st := s_groups_of) (at_ := fun K => He.ga K "groups_of") (kwd := []) rfl
  obtain ⟨fd24, F_wide_frame⟩ := getF c 24 (x := "wide_frame") (qual := "wide_frame") (st := s_wide_frame) (at_ := fun K => He.ga K "wide_frame") (kwd := []) rfl
  obtain ⟨fd25, F_part_regions⟩ := getF c 25 (x := "part_regions") (qual := "part_regions") (st := s_part_regions) (at_ := fun K => He.ga K "part_regions") (kwd := []) rfl
  obtain ⟨fd26, F_part_with⟩ := getF c 26 (x := "part_with") (qual := "part_with") (st := s_part_with) (at_ := fun K => He.ga K "part_with") (kwd := []) rfl
  obtain ⟨fd28, F_check_ends⟩ := getF c 28 (x := "check_ends") (qual := "check_ends") (st := s_check_ends) (at_ := fun K => He.ga K "check_ends") (kwd := []) rfl
  obtain ⟨fd29, F_near_form⟩ := getF c 29 (x := "near_form") (qual := "near_form") (st := s_near_form) (at_ := fun K => He.ga K "near_form") (kwd := []) rfl
  obtain ⟨fd30, F_is_open⟩ := getF c 30 (x := "is_open") (qual := "is_open") (st := s_is_open) (at_ := fun K => He.ga K "is_open") (kwd := []) rfl
  obtain ⟨fd31, F_crossings_of⟩ := getF c 31 (x := "crossings_of") (qual := "crossings_of") (st := s_crossings_of) (at_ := fun K => He.ga K "crossings_of") (kwd := []) rfl
  obtain ⟨fd32, F_steps_between⟩ := getF c 32 (x := "steps_between") (qual := "steps_between") (st := s_steps_between) (at_ := fun K => He.ga K "steps_between") (kwd := []) rfl
  obtain ⟨fd33, F_put_in⟩ := getF c 33 (x := "put_in") (qual := "put_in") (st := s_put_in) (at_ := fun K => He.ga K "put_in") (kwd := []) rfl
  obtain ⟨fd34, F_take_least⟩ := getF c 34 (x := "take_least") (qual := "take_least") (st := s_take_least) (at_ := fun K => He.ga K "take_least") (kwd := []) rfl
  obtain ⟨fd35, F_found_way⟩ := getF c 35 (x := "found_way") (qual := "found_way") (st := s_found_way) (at_ := fun K => He.ga K "found_way") (kwd := []) rfl
  obtain ⟨fd36, F_way_length⟩ := getF c 36 (x := "way_length") (qual := "way_length") (st := s_way_length) (at_ := fun K => He.ga K "way_length") (kwd := []) rfl
  obtain ⟨fd37, F_moved⟩ := getF c 37 (x := "moved") (qual := "moved") (st := s_moved) (at_ := fun K => He.ga K "moved") (kwd := []) rfl
  obtain ⟨fd38, F_shifted⟩ := getF c 38 (x := "shifted") (qual := "shifted") (st := s_shifted) (at_ := fun K => He.ga K "shifted") (kwd := []) rfl
  obtain ⟨fd39, F_mirrored⟩ := getF c 39 (x := "mirrored") (qual := "mirrored") (st := s_mirrored) (at_ := fun K => He.ga K "mirrored") (kwd := []) rfl
  obtain ⟨fd40, F_turned⟩ := getF c 40 (x := "turned") (qual := "turned") (st := s_turned) (at_ := fun K => He.ga K "turned") (kwd := []) rfl
  obtain ⟨fd41, F__law_pool⟩ := getF c 41 (x := "_law_pool") (qual := "_law_pool") (st := s_law_pool) (at_ := fun K => He.ga K "_law_pool") (kwd := []) rfl
  obtain ⟨fd42, F__law_take⟩ := getF c 42 (x := "_law_take") (qual := "_law_take") (st := s_law_take) (at_ := fun K => He.ga K "_law_take") (kwd := []) rfl
  obtain ⟨fd43, F__law_cells⟩ := getF c 43 (x := "_law_cells") (qual := "_law_cells") (st := s_law_cells) (at_ := fun K => He.ga K "_law_cells") (kwd := []) rfl
  obtain ⟨fd44, F__law_lines⟩ := getF c 44 (x := "_law_lines") (qual := "_law_lines") (st := s_law_lines) (at_ := fun K => He.ga K "_law_lines") (kwd := []) rfl
  obtain ⟨fd45, F__law_made⟩ := getF c 45 (x := "_law_made") (qual := "_law_made") (st := s_law_made) (at_ := fun K => He.ga K "_law_made") (kwd := []) rfl
  obtain ⟨fd46, F__law_far_square⟩ := getF c 46 (x := "_law_far_square") (qual := "_law_far_square") (st := s_law_far_square) (at_ := fun K => He.ga K "_law_far_square") (kwd := []) rfl
  obtain ⟨fd47, F__law_crossings⟩ := getF c 47 (x := "_law_crossings") (qual := "_law_crossings") (st := s_law_crossings) (at_ := fun K => He.ga K "_law_crossings") (kwd := []) rfl
  obtain ⟨fd48, F__law_links⟩ := getF c 48 (x := "_law_links") (qual := "_law_links") (st := s_law_links) (at_ := fun K => He.ga K "_law_links") (kwd := []) rfl
  obtain ⟨fd49, F__law_length⟩ := getF c 49 (x := "_law_length") (qual := "_law_length") (st := s_law_length) (at_ := fun K => He.ga K "_law_length") (kwd := []) rfl
  obtain ⟨fd50, F__law_moved_right⟩ := getF c 50 (x := "_law_moved_right") (qual := "_law_moved_right") (st := s_law_moved_right) (at_ := fun K => He.ga K "_law_moved_right") (kwd := []) rfl
  obtain ⟨fd27, F_part_of⟩ := getD c 27 (x := "part_of") (qual := "part_of") (st := s_part_of) (at_ := fun K => He.ga K "part_of") (kwd := [("corners", .bl false)]) rfl
  obtain ⟨fdL, D_law⟩ := getD c 51 (x := "law") (qual := "law") (st := s_law) (at_ := fun K => He.ga K "law") (kwd := []) rfl
  obtain ⟨fd52, M_init⟩ := getF c 52 (x := "__init__") (qual := "Region.__init__") (st := s_R_init) (at_ := fun K => He.ma K (He.ga K "Region") "__init__") (kwd := []) rfl
  obtain ⟨fd53, M_or⟩ := getF c 53 (x := "__or__") (qual := "Region.__or__") (st := s_R_or) (at_ := fun K => He.ma K (He.ga K "Region") "__or__") (kwd := []) rfl
  obtain ⟨fd54, M_invert⟩ := getF c 54 (x := "__invert__") (qual := "Region.__invert__") (st := s_R_invert) (at_ := fun K => He.ma K (He.ga K "Region") "__invert__") (kwd := []) rfl
  obtain ⟨fd55, M_contains⟩ := getF c 55 (x := "__contains__") (qual := "Region.__contains__") (st := s_R_contains) (at_ := fun K => He.ma K (He.ga K "Region") "__contains__") (kwd := []) rfl
  obtain ⟨fd56, M_eq⟩ := getF c 56 (x := "__eq__") (qual := "Region.__eq__") (st := s_R_eq) (at_ := fun K => He.ma K (He.ga K "Region") "__eq__") (kwd := []) rfl
  obtain ⟨fd57, M_of⟩ := getF c 57 (x := "of") (qual := "Region.of") (st := s_R_of) (at_ := fun K => He5.wf K (He.ga K "Region") "classmethod" "of") (kwd := []) rfl
  obtain ⟨fd58, M_empty⟩ := getF c 58 (x := "empty") (qual := "Region.empty") (st := s_R_empty) (at_ := fun K => He5.wf K (He.ga K "Region") "staticmethod" "empty") (kwd := []) rfl
  have g_merged : mg "merged" = some (.ref (He.ga K "merged")) := He.glo_ok X G (c.fact 0 (f := .glo "merged") rfl)
  have g_is_covered : mg "is_covered" = some (.ref (He.ga K "is_covered")) := He.glo_ok X G (c.fact 1 (f := .glo "is_covered") rfl)
  have g_is_wanted : mg "is_wanted" = some (.ref (He.ga K "is_wanted")) := He.glo_ok X G (c.fact 2 (f := .glo "is_wanted") rfl)
  have g_combined : mg "combined" = some (.ref (He.ga K "combined")) := He.glo_ok X G (c.fact 3 (f := .glo "combined") rfl)
  have g_holds_span : mg "holds_span" = some (.ref (He.ga K "holds_span")) := He.glo_ok X G (c.fact 4 (f := .glo "holds_span") rfl)
  have g_spans_at : mg "spans_at" = some (.ref (He.ga K "spans_at")) := He.glo_ok X G (c.fact 5 (f := .glo "spans_at") rfl)
  have g_tidy : mg "tidy" = some (.ref (He.ga K "tidy")) := He.glo_ok X G (c.fact 6 (f := .glo "tidy") rfl)
  have g_cuts_of : mg "cuts_of" = some (.ref (He.ga K "cuts_of")) := He.glo_ok X G (c.fact 7 (f := .glo "cuts_of") rfl)
  have g_slabs_of : mg "slabs_of" = some (.ref (He.ga K "slabs_of")) := He.glo_ok X G (c.fact 8 (f := .glo "slabs_of") rfl)
  have g_boxes_of : mg "boxes_of" = some (.ref (He.ga K "boxes_of")) := He.glo_ok X G (c.fact 9 (f := .glo "boxes_of") rfl)
  have g_mixed : mg "mixed" = some (.ref (He.ga K "mixed")) := He.glo_ok X G (c.fact 10 (f := .glo "mixed") rfl)
  have g_frame_of : mg "frame_of" = some (.ref (He.ga K "frame_of")) := He.glo_ok X G (c.fact 11 (f := .glo "frame_of") rfl)
  have g_is_integer : mg "is_integer" = some (.ref (He.ga K "is_integer")) := He.glo_ok X G (c.fact 12 (f := .glo "is_integer") rfl)
  have g_are_integers : mg "are_integers" = some (.ref (He.ga K "are_integers")) := He.glo_ok X G (c.fact 13 (f := .glo "are_integers") rfl)
  have g_is_square : mg "is_square" = some (.ref (He.ga K "is_square")) := He.glo_ok X G (c.fact 14 (f := .glo "is_square") rfl)
  have g_is_box : mg "is_box" = some (.ref (He.ga K "is_box")) := He.glo_ok X G (c.fact 15 (f := .glo "is_box") rfl)
  have g_check_square : mg "check_square" = some (.ref (He.ga K "check_square")) := He.glo_ok X G (c.fact 16 (f := .glo "check_square") rfl)
  have g_check_box : mg "check_box" = some (.ref (He.ga K "check_box")) := He.glo_ok X G (c.fact 17 (f := .glo "check_box") rfl)
  have g_check_region : mg "check_region" = some (.ref (He.ga K "check_region")) := He.glo_ok X G (c.fact 18 (f := .glo "check_region") rfl)
  have g_united : mg "united" = some (.ref (He.ga K "united")) := He.glo_ok X G (c.fact 19 (f := .glo "united") rfl)
  have g_turned_out : mg "turned_out" = some (.ref (He.ga K "turned_out")) := He.glo_ok X G (c.fact 20 (f := .glo "turned_out") rfl)
  have g_check_flag : mg "check_flag" = some (.ref (He.ga K "check_flag")) := He.glo_ok X G (c.fact 21 (f := .glo "check_flag") rfl)
  have g_are_linked : mg "are_linked" = some (.ref (He.ga K "are_linked")) := He.glo_ok X G (c.fact 22 (f := .glo "are_linked") rfl)
  have g_groups_of : mg "groups_of" = some (.ref (He.ga K "groups_of")) := He.glo_ok X G (c.fact 23 (f := .glo "groups_of") rfl)
  have g_wide_frame : mg "wide_frame" = some (.ref (He.ga K "wide_frame")) := He.glo_ok X G (c.fact 24 (f := .glo "wide_frame") rfl)
  have g_part_regions : mg "part_regions" = some (.ref (He.ga K "part_regions")) := He.glo_ok X G (c.fact 25 (f := .glo "part_regions") rfl)
  have g_part_with : mg "part_with" = some (.ref (He.ga K "part_with")) := He.glo_ok X G (c.fact 26 (f := .glo "part_with") rfl)
  have g_part_of : mg "part_of" = some (.ref (He.ga K "part_of")) := He.glo_ok X G (c.fact 27 (f := .glo "part_of") rfl)
  have g_check_ends : mg "check_ends" = some (.ref (He.ga K "check_ends")) := He.glo_ok X G (c.fact 28 (f := .glo "check_ends") rfl)
  have g_near_form : mg "near_form" = some (.ref (He.ga K "near_form")) := He.glo_ok X G (c.fact 29 (f := .glo "near_form") rfl)
  have g_is_open : mg "is_open" = some (.ref (He.ga K "is_open")) := He.glo_ok X G (c.fact 30 (f := .glo "is_open") rfl)
  have g_crossings_of : mg "crossings_of" = some (.ref (He.ga K "crossings_of")) := He.glo_ok X G (c.fact 31 (f := .glo "crossings_of") rfl)
  have g_steps_between : mg "steps_between" = some (.ref (He.ga K "steps_between")) := He.glo_ok X G (c.fact 32 (f := .glo "steps_between") rfl)
  have g_put_in : mg "put_in" = some (.ref (He.ga K "put_in")) := He.glo_ok X G (c.fact 33 (f := .glo "put_in") rfl)
  have g_take_least : mg "take_least" = some (.ref (He.ga K "take_least")) := He.glo_ok X G (c.fact 34 (f := .glo "take_least") rfl)
  have g_found_way : mg "found_way" = some (.ref (He.ga K "found_way")) := He.glo_ok X G (c.fact 35 (f := .glo "found_way") rfl)
  have g_way_length : mg "way_length" = some (.ref (He.ga K "way_length")) := He.glo_ok X G (c.fact 36 (f := .glo "way_length") rfl)
  have g_moved : mg "moved" = some (.ref (He.ga K "moved")) := He.glo_ok X G (c.fact 37 (f := .glo "moved") rfl)
  have g_shifted : mg "shifted" = some (.ref (He.ga K "shifted")) := He.glo_ok X G (c.fact 38 (f := .glo "shifted") rfl)
  have g_mirrored : mg "mirrored" = some (.ref (He.ga K "mirrored")) := He.glo_ok X G (c.fact 39 (f := .glo "mirrored") rfl)
  have g_turned : mg "turned" = some (.ref (He.ga K "turned")) := He.glo_ok X G (c.fact 40 (f := .glo "turned") rfl)
  have g__law_pool : mg "_law_pool" = some (.ref (He.ga K "_law_pool")) := He.glo_ok X G (c.fact 41 (f := .glo "_law_pool") rfl)
  have g__law_take : mg "_law_take" = some (.ref (He.ga K "_law_take")) := He.glo_ok X G (c.fact 42 (f := .glo "_law_take") rfl)
  have g__law_cells : mg "_law_cells" = some (.ref (He.ga K "_law_cells")) := He.glo_ok X G (c.fact 43 (f := .glo "_law_cells") rfl)
  have g__law_lines : mg "_law_lines" = some (.ref (He.ga K "_law_lines")) := He.glo_ok X G (c.fact 44 (f := .glo "_law_lines") rfl)
  have g__law_made : mg "_law_made" = some (.ref (He.ga K "_law_made")) := He.glo_ok X G (c.fact 45 (f := .glo "_law_made") rfl)
  have g__law_far_square : mg "_law_far_square" = some (.ref (He.ga K "_law_far_square")) := He.glo_ok X G (c.fact 46 (f := .glo "_law_far_square") rfl)
  have g__law_crossings : mg "_law_crossings" = some (.ref (He.ga K "_law_crossings")) := He.glo_ok X G (c.fact 47 (f := .glo "_law_crossings") rfl)
  have g__law_links : mg "_law_links" = some (.ref (He.ga K "_law_links")) := He.glo_ok X G (c.fact 48 (f := .glo "_law_links") rfl)
  have g__law_length : mg "_law_length" = some (.ref (He.ga K "_law_length")) := He.glo_ok X G (c.fact 49 (f := .glo "_law_length") rfl)
  have g__law_moved_right : mg "_law_moved_right" = some (.ref (He.ga K "_law_moved_right")) := He.glo_ok X G (c.fact 50 (f := .glo "_law_moved_right") rfl)
  have g_law : mg "law" = some (.ref (He.ga K "law")) := He.glo_ok X G (c.fact 51 (f := .glo "law") rfl)
  have g_Region : mg "Region" = some (.ref (He.ga K "Region")) := He.glo_ok X G (c.fact 52 (f := .glo "Region") rfl)
  have B : NB mg := ⟨fun x hx => by
    simp only [List.mem_cons, List.not_mem_nil, or_false] at hx
    rcases hx with rfl | rfl | rfl | rfl | rfl | rfl | rfl | rfl | rfl | rfl | rfl | rfl | rfl | rfl | rfl | rfl | rfl
    · exact He.free_ok X G (c.fact 53 (f := .free "any") rfl)
    · exact He.free_ok X G (c.fact 54 (f := .free "all") rfl)
    · exact He.free_ok X G (c.fact 55 (f := .free "min") rfl)
    · exact He.free_ok X G (c.fact 56 (f := .free "max") rfl)
    · exact He.free_ok X G (c.fact 57 (f := .free "len") rfl)
    · exact He.free_ok X G (c.fact 58 (f := .free "sorted") rfl)
    · exact He.free_ok X G (c.fact 59 (f := .free "set") rfl)
    · exact He.free_ok X G (c.fact 60 (f := .free "list") rfl)
    · exact He.free_ok X G (c.fact 61 (f := .free "tuple") rfl)
    · exact He.free_ok X G (c.fact 62 (f := .free "range") rfl)
    · exact He.free_ok X G (c.fact 63 (f := .free "zip") rfl)
    · exact He.free_ok X G (c.fact 64 (f := .free "abs") rfl)
    · exact He.free_ok X G (c.fact 65 (f := .free "isinstance") rfl)
    · exact He.free_ok X G (c.fact 66 (f := .free "dict") rfl)
    · exact He.free_ok X G (c.fact 67 (f := .free "enumerate") rfl)
    · exact He.free_ok X G (c.fact 68 (f := .free "repr") rfl)
    · exact He.free_ok X G (c.fact 69 (f := .free "int") rfl)⟩
  have hb : mg "bool" = none := He.free_ok X G (c.fact 70 (f := .free "bool") rfl)
  have e := hfa.symm.trans g_law
  cases e
  unfold exB at cx
  obtain ⟨x1, cx⟩ := He.ba cx
  obtain ⟨x2, cx⟩ := He.ba cx
  obtain ⟨x3, cx⟩ := He.ba cx
  obtain ⟨x4, cx⟩ := He.ba cx
  obtain ⟨x5, cx⟩ := He.ba cx
  obtain ⟨x6, cx⟩ := He.ba cx
  obtain ⟨x7, cx⟩ := He.ba cx
  obtain ⟨x8, cx⟩ := He.ba cx
  obtain ⟨x9, cx⟩ := He.ba cx
  obtain ⟨x10, cx⟩ := He.ba cx
  obtain ⟨x11, x12⟩ := He.ba cx
  have RC : RCls K (He.ga K "Region") := ⟨He.cls_ok (c.fact 71 (f := .cls "Region") rfl), He.noat_ok (c.fact 72 (f := .noat "Region" "form") rfl), He.noat_ok (c.fact 73 (f := .noat "Region" "is_outside") rfl), He.eqO_ok x1, He.eqO_ok x2, of_decide_eq_true x3, of_decide_eq_true x4⟩
  have m_or := He.meth_ok (c.fact 75 (f := .meth "Region" "__or__") rfl)
  have m_invert := He.meth_ok (c.fact 76 (f := .meth "Region" "__invert__") rfl)
  have m_contains := He.meth_ok (c.fact 77 (f := .meth "Region" "__contains__") rfl)
  have m_eq := He.meth_ok (c.fact 78 (f := .meth "Region" "__eq__") rfl)
  have mk := He.mkr_ok (c.fact 74 (f := .mkr "Region") rfl)
  have cr := cread_ok x6 (He.eqO_ok x7)
  have bnd := FunD.bindsA (ps := ["_law_script"]) D_law fun _ _ _ _ _ _ us hl => match us, hl with | [_], _ => rfl
  refine ⟨fdL, fun s v => bnd s [v] rfl, fun base => ?_⟩
  have cK : MkD P w K mg base (He.ga K "Region") := ⟨⟨_, _, mk, ok_init M_init RC, M_init.binds (fun _ _ _ _ _ _ us hl => match us, hl with | [_, _, _], _ => rfl)⟩, g_Region⟩
  have c1 := c_is_covered (P := P) (w := w) (base := base) (C := He.ga K "Region") F_is_covered g_is_covered B
  have c2 := c_holds_span (P := P) (w := w) (base := base) (C := He.ga K "Region") F_holds_span g_holds_span B
  have c3 := c_is_wanted (P := P) (w := w) (base := base) (C := He.ga K "Region") F_is_wanted g_is_wanted
  have c4 := c_merged (P := P) (w := w) (base := base) (C := He.ga K "Region") F_merged g_merged B
  have c5 := c_combined F_combined g_combined B c1 c3 c4
  have c6 := c_spans_at (P := P) (w := w) (base := base) (C := He.ga K "Region") F_spans_at g_spans_at
  have c7 := c_tidy (P := P) (w := w) (base := base) (C := He.ga K "Region") F_tidy g_tidy B
  have c8 := c_cuts_of (P := P) (w := w) (base := base) (C := He.ga K "Region") F_cuts_of g_cuts_of B
  have c9 := c_boxes_of (P := P) (w := w) (base := base) (C := He.ga K "Region") F_boxes_of g_boxes_of
  have c10 := c_slabs_of F_slabs_of g_slabs_of B c4 c7
  have c11 := c_mixed F_mixed g_mixed B c8 c6 c5 c7
  have c12 := c_frame_of (P := P) (w := w) (base := base) (C := He.ga K "Region") F_frame_of g_frame_of B
  have c13 := c_wide_frame F_wide_frame g_wide_frame c12
  have c14 := c_is_integer (P := P) (w := w) (base := base) (C := He.ga K "Region") F_is_integer g_is_integer B hb
  have c15 := c_are_integers F_are_integers g_are_integers B c14
  have c16 := c_is_square F_is_square g_is_square c15
  have c17 := c_is_box F_is_box g_is_box c15
  have c18 := c_check_square F_check_square g_check_square c16
  have c19 := c_check_box F_check_box g_check_box c17
  have c20 := c_check_region (P := P) (w := w) (base := base) F_check_region g_check_region B RC g_Region
  have c21 := c_check_flag (P := P) (w := w) (base := base) (C := He.ga K "Region") F_check_flag g_check_flag B hb
  have c22 := c_united F_united g_united RC cK c11
  have c23 := c_turned_out F_turned_out g_turned_out RC cK
  have oOr := o_or M_or m_or.1 m_or.2 c20 c22
  have oIn := o_invert M_invert m_invert.1 m_invert.2 c23
  have oCo := o_contains M_contains m_contains.1 m_contains.2 RC c18 c1 c6
  have oEq := o_eq (P := P) (w := w) (base := base) M_eq m_eq.1 m_eq.2 RC B g_Region
  have c24 := c_moved F_moved g_moved RC cK c10
  have c25 := c_shifted F_shifted g_shifted RC c20 c14 c9 c24
  have c26 := c_mirrored F_mirrored g_mirrored RC c20 c9 c24
  have c27 := c_turned F_turned g_turned RC c20 c9 c24
  have c28 := c_are_linked (P := P) (w := w) (base := base) (C := He.ga K "Region") F_are_linked g_are_linked B
  have c29 := c_groups_of F_groups_of g_groups_of B c28
  have c30 := c_part_regions F_part_regions g_part_regions RC cK c10 c9 c29
  have c31 := c_part_with F_part_with g_part_with c30 oCo
  have c32 := c_part_of F_part_of g_part_of c20 c18 c21 c31
  have c33 := c_check_ends F_check_ends g_check_ends c20 c16 oCo
  have c34 := c_near_form F_near_form g_near_form RC c10 c11 c13
  have c35 := c_steps_between (P := P) (w := w) (base := base) (C := He.ga K "Region") F_steps_between g_steps_between B
  have c36 := c_is_open F_is_open g_is_open B c6 c2
  have c37 := c_crossings_of F_crossings_of g_crossings_of B c6 c2 c36
  have c38 := c_put_in (P := P) (w := w) (base := base) (C := He.ga K "Region") F_put_in g_put_in B
  have c39 := c_take_least (P := P) (w := w) (base := base) (C := He.ga K "Region") F_take_least g_take_least B
  have c40 := c_found_way F_found_way g_found_way B c34 c37 c39 c38 c35
  have c41 := c_way_length F_way_length g_way_length c33 c40
  have d1 := c_law_pool (P := P) (w := w) (base := base) (C := He.ga K "Region") F__law_pool g__law_pool B
  have d2 := c_law_take (P := P) (w := w) (base := base) (C := He.ga K "Region") F__law_take g__law_take
  have d3 := c_law_cells F__law_cells g__law_cells B d2
  have d4 := c_law_lines F__law_lines g__law_lines B d2
  have cOf : OfD P w K mg base (He.ga K "Region") := ⟨⟨_, _, _, cr, He5.cmet_of x8 x9, f_of M_of B cK c19 c10⟩, g_Region⟩
  have cEm : EmptyD P w K mg base (He.ga K "Region") := ⟨⟨_, _, _, cr, ⟨(He5.wrapB_ok x10).1, (He5.wrapB_ok x10).2, M_empty.kp⟩, f_empty M_empty cK⟩, g_Region⟩
  have d5 := c_law_made F__law_made g__law_made x5 cEm cOf oOr
  have d6 := c_law_far_square F__law_far_square g__law_far_square d2
  have d7 := c_law_crossings (P := P) (w := w) (base := base) (C := He.ga K "Region") F__law_crossings g__law_crossings B
  have d8 := c_law_links (P := P) (w := w) (base := base) (C := He.ga K "Region") F__law_links g__law_links B
  have d9 := c_law_length F__law_length g__law_length B d7 d8
  have d10 := c_law_moved_right F__law_moved_right g__law_moved_right d2 c41 c25 c26 c27
  exact ok_law (He5.fun_of D_law) B d1 d4 d3 d5 d6 d2 d9 c41 c32 oEq (He.eqO_ok x11) (of_decide_eq_true x12) d10 oIn cOf
end BR
set_option maxHeartbeats 0
open PySem PySem.W PySem.Calls PyProof.Rows
theorem PySem.Challenge.cw_boxregions_k60_whole_far_ways_holds : PySem.Challenge.rw_boxregions_k60_whole_far_ways.Holds := by
  w_on; o_law
  refine HandSHeadRun.head_any (r := OpenLaw.row PySem.Challenge.rw_boxregions_k60_whole_far_ways) (q := view (OpenLaw.row PySem.Challenge.rw_boxregions_k60_whole_far_ways).prog [74]) (H := BR.hookB) (ob := BR.obB) (M := 30000) (loose := BR.names) (d := HandSHeadRun.topDef (OpenLaw.row PySem.Challenge.rw_boxregions_k60_whole_far_ways).prog 74) (kwd := []) BR.obB_eq
    (by kernel_rfl) (fun s => by kernel_rfl) BR.headrun (by kernel_rfl) (by kernel_rfl) (by kernel_rfl) (by rfl) (by first | assumption | decide +kernel) (by decide +kernel) ⟨rfl, rfl, rfl, rfl, rfl, by decide +kernel⟩ ?hw ?hc
  case hw => w_witness2
  case hc =>
    refine L2.walk_ofE (l := PySem.Challenge.rw_boxregions_k60_whole_far_ways) (n := 63) (k := 9) (x := "_law_script") (CX := L2.CX0) rfl (by decide) (by kernel_rfl) ⟨rfl, by decide, by decide⟩ ?F (fun _ _ _ _ z => z)
    intro w mg fa h Y G hmg0
    obtain ⟨K, KX, c, cx⟩ := Y
    have hmg : mg ("law" : PySem.Str) = some (.ref fa) := by
      have e : (HandSHeadRun.topDef (OpenLaw.row PySem.Challenge.rw_boxregions_k60_whole_far_ways).prog 74).name = ("law" : PySem.Str) := by kernel_rfl
      rw [← e]
      exact hmg0
    obtain ⟨fd, hb, hF⟩ := BR.facts (P := (PySem.Challenge.rw_boxregions_k60_whole_far_ways).prog) (w := w) KX G c cx hmg
    exact ⟨K, fd, BR.spD (He.ga K "Region") (BR.rLaw K), KX, hb, fun H a ns hl _ hS => ⟨H, [.scr K ns], .bl true, .refl H, .cons (.scr hS) .nil, ⟨ns, fun k _ => BR.turn_ok (BR.poolOf_ok ns k), rfl, rfl⟩, fun v F' H' e r => r.inj_bl⟩, fun base _ _ => hF base⟩
