import PyProof.Rows.All
import PySem.Challenge.RW_pixelstages_k09_whole_rows_of_geometry
import HandS.ForMost
import HandS.Nested
import HandS.Defaults
import HandS.Head2
import HandS.HeadHook4
import HandS.HeadWalk
import HandS.CallLocal
import HandS.IsInst
import HandS.SetBool
import HandS.TupSets
import HandS.Strs
import HandS.MakeKwOnly
import HandS.Conv
import HandS.Style
import HandS.Zip
import HandS.TupMul
import HandS.Flow
set_option Elab.async false
set_option linter.all false
set_option maxRecDepth 100000
set_option maxHeartbeats 4000000
/-! The text by places, the scopes, the facts that the head tells. Printed by gen_text.py. -/
namespace K9
open PySem PySem.Spec PyProof.Rows L2
def top (i : Nat) : Stmt := PySem.Challenge.pw_pixelstages_k09_whole_rows_of_geometry.main.body.getD i (.Pass ⟨0, 0, 0, 0⟩)
abbrev s_is_whole : Stmt := top 18
abbrev s_is_from : Stmt := top 19
abbrev s_is_name : Stmt := top 20
abbrev s_are_wholes : Stmt := top 21
abbrev s_are_rows : Stmt := top 22
abbrev s_is_window : Stmt := top 23
abbrev s_lies_in : Stmt := top 24
abbrev s_are_planes : Stmt := top 30
abbrev s_Picture_init : Stmt := inClass (top 31) 0
abbrev s_Picture_window : Stmt := inClass (top 31) 1
abbrev s_is_border : Stmt := top 38
abbrev s_folded_one : Stmt := top 39
abbrev s_folded : Stmt := top 40
abbrev s_must_fit_border : Stmt := top 41
abbrev s_is_source : Stmt := top 42
abbrev s_shape_of_source : Stmt := top 43
abbrev s_tell_source : Stmt := top 45
abbrev s_is_framed : Stmt := top 46
abbrev s_shape_of_framed : Stmt := top 47
abbrev s_tell_framed : Stmt := top 49
abbrev s_same_shape : Stmt := top 50
abbrev s_tell_cell : Stmt := top 51
abbrev s_is_moved : Stmt := top 52
abbrev s_place_of_moved : Stmt := top 53
abbrev s_is_flipped : Stmt := top 54
abbrev s_place_of_flipped : Stmt := top 55
abbrev s_is_turned : Stmt := top 56
abbrev s_place_of_turned : Stmt := top 57
abbrev s_is_curved : Stmt := top 60
abbrev s_shape_of_curved : Stmt := top 61
abbrev s_tell_curved : Stmt := top 63
abbrev s_row_of : Stmt := top 147
abbrev s_is_stage : Stmt := top 148
abbrev s_has_no_divisor : Stmt := top 149
abbrev s_made_of : Stmt := top 150
abbrev s_shape_by : Stmt := top 151
abbrev s_told_by : Stmt := top 152
abbrev s_first_missing : Stmt := top 155
abbrev s_in_order : Stmt := top 156
abbrev s_shapes_of : Stmt := top 157
abbrev s_numbers_at : Stmt := top 158
abbrev s_planes_by : Stmt := top 159
abbrev s_must_be_there : Stmt := top 160
abbrev s_must_be_window : Stmt := top 161
abbrev s_Net_init : Stmt := inClass (top 162) 0
abbrev s_Net_put : Stmt := inClass (top 162) 1
abbrev s_Net_shape : Stmt := inClass (top 162) 3
abbrev s_Net_whole : Stmt := inClass (top 162) 6
abbrev s_law_pen : Stmt := top 164
abbrev s_law_draw : Stmt := top 165
abbrev s_law_names : Stmt := top 166
abbrev s_law_planes : Stmt := top 167
abbrev s_law_picture : Stmt := top 168
abbrev s_law_border : Stmt := top 169
abbrev s_law_window : Stmt := top 170
abbrev s_law_one_back : Stmt := top 171
abbrev s_law_back : Stmt := top 172
abbrev s_law_shape : Stmt := top 173
abbrev s_law_plain : Stmt := top 174
abbrev s_law_whole : Stmt := top 175
abbrev s_law_same : Stmt := top 176
abbrev s_law_seen_right : Stmt := top 177
abbrev s_law_table : Stmt := top 178
abbrev s_law_link : Stmt := top 179
abbrev s_law_at : Stmt := top 180
abbrev s_law_numbers : Stmt := top 181
abbrev s_law : Stmt := top 182
theorem sc_is_whole : FnScope ["thing"] ["thing"] (defScope s_is_whole) := ⟨rfl, rfl, rfl, by decide +kernel, rfl, by decide +kernel, by decide +kernel⟩
theorem sc_is_from : FnScope ["thing", "least", "most"] ["thing", "least", "most"] (defScope s_is_from) := ⟨rfl, rfl, rfl, by decide +kernel, rfl, by decide +kernel, by decide +kernel⟩
theorem sc_is_name : FnScope ["thing", "sign"] ["thing"] (defScope s_is_name) := ⟨rfl, rfl, rfl, by decide +kernel, rfl, by decide +kernel, by decide +kernel⟩
theorem sc_are_wholes : FnScope ["thing", "least", "most", "one"] ["thing", "least", "most"] (defScope s_are_wholes) := ⟨rfl, rfl, rfl, by decide +kernel, rfl, by decide +kernel, by decide +kernel⟩
theorem sc_are_rows : FnScope ["thing", "most_rows", "most_columns", "row"] ["thing", "most_rows", "most_columns"] (defScope s_are_rows) := ⟨rfl, rfl, rfl, by decide +kernel, rfl, by decide +kernel, by decide +kernel⟩
theorem sc_is_window : FnScope ["thing", "left", "up", "wide", "high"] ["thing"] (defScope s_is_window) := ⟨rfl, rfl, rfl, by decide +kernel, rfl, by decide +kernel, by decide +kernel⟩
theorem sc_lies_in : FnScope ["window", "x", "y", "left", "up", "wide", "high"] ["window", "x", "y"] (defScope s_lies_in) := ⟨rfl, rfl, rfl, by decide +kernel, rfl, by decide +kernel, by decide +kernel⟩
theorem sc_are_planes : FnScope ["thing", "depth", "plane", "row"] ["thing", "depth"] (defScope s_are_planes) := ⟨rfl, rfl, rfl, by decide +kernel, rfl, by decide +kernel, by decide +kernel⟩
theorem sc_Picture_init : FnScope ["self", "planes", "left", "up", "depth"] ["self", "planes", "left", "up", "depth"] (defScope s_Picture_init) := ⟨rfl, rfl, rfl, by decide +kernel, rfl, by decide +kernel, by decide +kernel⟩
theorem sc_Picture_window : FnScope ["self", "plane"] ["self"] (defScope s_Picture_window) := ⟨rfl, rfl, rfl, by decide +kernel, rfl, by decide +kernel, by decide +kernel⟩
theorem sc_is_border : FnScope ["thing"] ["thing"] (defScope s_is_border) := ⟨rfl, rfl, rfl, by decide +kernel, rfl, by decide +kernel, by decide +kernel⟩
theorem sc_folded_one : FnScope ["border", "first", "many", "place", "far", "rest"] ["border", "first", "many", "place"] (defScope s_folded_one) := ⟨rfl, rfl, rfl, by decide +kernel, rfl, by decide +kernel, by decide +kernel⟩
theorem sc_folded : FnScope ["border", "window", "x", "y", "left", "up", "wide", "high"] ["border", "window", "x", "y"] (defScope s_folded) := ⟨rfl, rfl, rfl, by decide +kernel, rfl, by decide +kernel, by decide +kernel⟩
theorem sc_must_fit_border : FnScope ["border", "depth"] ["border", "depth"] (defScope s_must_fit_border) := ⟨rfl, rfl, rfl, by decide +kernel, rfl, by decide +kernel, by decide +kernel⟩
theorem sc_is_source : FnScope ["stage"] ["stage"] (defScope s_is_source) := ⟨rfl, rfl, rfl, by decide +kernel, rfl, by decide +kernel, by decide +kernel⟩
theorem sc_shape_of_source : FnScope ["stage", "shapes"] ["stage", "shapes"] (defScope s_shape_of_source) := ⟨rfl, rfl, rfl, by decide +kernel, rfl, by decide +kernel, by decide +kernel⟩
theorem sc_tell_source : FnScope ["stage", "shapes", "look", "x", "y", "plane", "picture", "cell"] ["stage", "shapes", "look", "x", "y", "plane"] (defScope s_tell_source) := ⟨rfl, rfl, rfl, by decide +kernel, rfl, by decide +kernel, by decide +kernel⟩
theorem sc_is_framed : FnScope ["stage"] ["stage"] (defScope s_is_framed) := ⟨rfl, rfl, rfl, by decide +kernel, rfl, by decide +kernel, by decide +kernel⟩
theorem sc_shape_of_framed : FnScope ["stage", "shapes"] ["stage", "shapes"] (defScope s_shape_of_framed) := ⟨rfl, rfl, rfl, by decide +kernel, rfl, by decide +kernel, by decide +kernel⟩
theorem sc_tell_framed : FnScope ["stage", "shapes", "look", "x", "y", "plane", "cell"] ["stage", "shapes", "look", "x", "y", "plane"] (defScope s_tell_framed) := ⟨rfl, rfl, rfl, by decide +kernel, rfl, by decide +kernel, by decide +kernel⟩
theorem sc_same_shape : FnScope ["stage", "shapes"] ["stage", "shapes"] (defScope s_same_shape) := ⟨rfl, rfl, rfl, by decide +kernel, rfl, by decide +kernel, by decide +kernel⟩
theorem sc_tell_cell : FnScope ["stage", "shapes", "look", "x", "y", "plane", "kind", "cell"] ["stage", "shapes", "look", "x", "y", "plane"] (defScope s_tell_cell) := ⟨rfl, rfl, rfl, by decide +kernel, rfl, by decide +kernel, by decide +kernel⟩
theorem sc_is_moved : FnScope ["stage", "one"] ["stage"] (defScope s_is_moved) := ⟨rfl, rfl, rfl, by decide +kernel, rfl, by decide +kernel, by decide +kernel⟩
theorem sc_place_of_moved : FnScope ["stage", "x", "y"] ["stage", "x", "y"] (defScope s_place_of_moved) := ⟨rfl, rfl, rfl, by decide +kernel, rfl, by decide +kernel, by decide +kernel⟩
theorem sc_is_flipped : FnScope ["stage"] ["stage"] (defScope s_is_flipped) := ⟨rfl, rfl, rfl, by decide +kernel, rfl, by decide +kernel, by decide +kernel⟩
theorem sc_place_of_flipped : FnScope ["stage", "x", "y"] ["stage", "x", "y"] (defScope s_place_of_flipped) := ⟨rfl, rfl, rfl, by decide +kernel, rfl, by decide +kernel, by decide +kernel⟩
theorem sc_is_turned : FnScope ["stage"] ["stage"] (defScope s_is_turned) := ⟨rfl, rfl, rfl, by decide +kernel, rfl, by decide +kernel, by decide +kernel⟩
theorem sc_place_of_turned : FnScope ["stage", "x", "y"] ["stage", "x", "y"] (defScope s_place_of_turned) := ⟨rfl, rfl, rfl, by decide +kernel, rfl, by decide +kernel, by decide +kernel⟩
theorem sc_is_curved : FnScope ["stage", "table", "depth"] ["stage"] (defScope s_is_curved) := ⟨rfl, rfl, rfl, by decide +kernel, rfl, by decide +kernel, by decide +kernel⟩
theorem sc_shape_of_curved : FnScope ["stage", "shapes", "planes", "depth", "table", "fresh"] ["stage", "shapes"] (defScope s_shape_of_curved) := ⟨rfl, rfl, rfl, by decide +kernel, rfl, by decide +kernel, by decide +kernel⟩
theorem sc_tell_curved : FnScope ["stage", "shapes", "look", "x", "y", "plane"] ["stage", "shapes", "look", "x", "y", "plane"] (defScope s_tell_curved) := ⟨rfl, rfl, rfl, by decide +kernel, rfl, by decide +kernel, by decide +kernel⟩
theorem sc_row_of : FnScope ["kind", "table"] ["kind"] (defScope s_row_of) := ⟨rfl, rfl, rfl, by decide +kernel, rfl, by decide +kernel, by decide +kernel⟩
theorem sc_is_stage : FnScope ["thing", "row", "has_form", "name"] ["thing"] (defScope s_is_stage) := ⟨rfl, rfl, rfl, by decide +kernel, rfl, by decide +kernel, by decide +kernel⟩
theorem sc_has_no_divisor : FnScope ["stage"] ["stage"] (defScope s_has_no_divisor) := ⟨rfl, rfl, rfl, by decide +kernel, rfl, by decide +kernel, by decide +kernel⟩
theorem sc_made_of : FnScope ["stage"] ["stage"] (defScope s_made_of) := ⟨rfl, rfl, rfl, by decide +kernel, rfl, by decide +kernel, by decide +kernel⟩
theorem sc_shape_by : FnScope ["stage", "shapes", "shape"] ["stage", "shapes"] (defScope s_shape_by) := ⟨rfl, rfl, rfl, by decide +kernel, rfl, by decide +kernel, by decide +kernel⟩
theorem sc_told_by : FnScope ["stage", "shapes", "look", "x", "y", "plane", "tell"] ["stage", "shapes", "look", "x", "y", "plane"] (defScope s_told_by) := ⟨rfl, rfl, rfl, by decide +kernel, rfl, by decide +kernel, by decide +kernel⟩
theorem sc_first_missing : FnScope ["stage", "there", "name"] ["stage", "there"] (defScope s_first_missing) := ⟨rfl, rfl, rfl, by decide +kernel, rfl, by decide +kernel, by decide +kernel⟩
theorem sc_in_order : FnScope ["stages", "found", "left", "ready", "name", "one"] ["stages"] (defScope s_in_order) := ⟨rfl, rfl, rfl, by decide +kernel, rfl, by decide +kernel, by decide +kernel⟩
theorem sc_shapes_of : FnScope ["stages", "shapes", "name", "stage", "one"] ["stages"] (defScope s_shapes_of) := ⟨rfl, rfl, rfl, by decide +kernel, rfl, by decide +kernel, by decide +kernel⟩
theorem sc_numbers_at : FnScope ["stages", "shapes", "memo", "name", "x", "y", "plane", "key", "stage", "look", "parts", "one"] ["stages", "shapes", "memo", "name", "x", "y", "plane"] (defScope s_numbers_at) := ⟨rfl, rfl, rfl, by decide +kernel, rfl, by decide +kernel, by decide +kernel⟩
theorem sc_planes_by : FnScope ["window", "many", "tell", "left", "up", "wide", "high", "found", "plane", "rows", "x", "y"] ["window", "many", "tell"] (defScope s_planes_by) := ⟨rfl, rfl, rfl, by decide +kernel, rfl, by decide +kernel, by decide +kernel⟩
theorem sc_must_be_there : FnScope ["stages", "name"] ["stages", "name"] (defScope s_must_be_there) := ⟨rfl, rfl, rfl, by decide +kernel, rfl, by decide +kernel, by decide +kernel⟩
theorem sc_must_be_window : FnScope ["window"] ["window"] (defScope s_must_be_window) := ⟨rfl, rfl, rfl, by decide +kernel, rfl, by decide +kernel, by decide +kernel⟩
theorem sc_Net_init : FnScope ["self"] ["self"] (defScope s_Net_init) := ⟨rfl, rfl, rfl, by decide +kernel, rfl, by decide +kernel, by decide +kernel⟩
theorem sc_Net_put : FnScope ["self", "name", "stage", "fresh", "missing", "shapes"] ["self", "name", "stage"] (defScope s_Net_put) := ⟨rfl, rfl, rfl, by decide +kernel, rfl, by decide +kernel, by decide +kernel⟩
theorem sc_Net_shape : FnScope ["self", "name"] ["self", "name"] (defScope s_Net_shape) := ⟨rfl, rfl, rfl, by decide +kernel, rfl, by decide +kernel, by decide +kernel⟩
theorem sc_Net_whole : FnScope ["self", "name", "window", "many", "depth", "tell", "memo", "shapes", "stages"] ["self", "name", "window"] (defScope s_Net_whole) := ⟨rfl, rfl, rfl, by decide +kernel, rfl, by decide +kernel, by decide +kernel⟩
theorem sc_law_pen : FnScope ["_law_script"] ["_law_script"] (defScope s_law_pen) := ⟨rfl, rfl, rfl, by decide +kernel, rfl, by decide +kernel, by decide +kernel⟩
theorem sc_law_draw : FnScope ["_law_pen_here", "_law_many", "_law_found", "_law_at_here", "_law_cell", "_law_number"] ["_law_pen_here", "_law_many"] (defScope s_law_draw) := ⟨rfl, rfl, rfl, by decide +kernel, rfl, by decide +kernel, by decide +kernel⟩
theorem sc_law_names : FnScope ["_law_pen_here", "_law_many", "_law_letters", "_law_some", "_law_step", "_law_code", "_law_k", "_law_begin"] ["_law_pen_here", "_law_many"] (defScope s_law_names) := ⟨rfl, rfl, rfl, by decide +kernel, rfl, by decide +kernel, by decide +kernel⟩
theorem sc_law_planes : FnScope ["_law_pen_here", "_law_planes_here", "_law_broad", "_law_tall", "_law_deep", "_law_found", "_law_k", "_law_rows", "_law_j", "_law_row", "_law_i"] ["_law_pen_here", "_law_planes_here", "_law_broad", "_law_tall", "_law_deep"] (defScope s_law_planes) := ⟨rfl, rfl, rfl, by decide +kernel, rfl, by decide +kernel, by decide +kernel⟩
theorem sc_law_picture : FnScope ["_law_pen_here", "_law_planes_here", "_law_deep", "_law_limit", "_law_broad", "_law_tall", "_law_west", "_law_north"] ["_law_pen_here", "_law_planes_here", "_law_deep", "_law_limit"] (defScope s_law_picture) := ⟨rfl, rfl, rfl, by decide +kernel, rfl, by decide +kernel, by decide +kernel⟩
theorem sc_law_border : FnScope ["_law_pen_here", "_law_deep"] ["_law_pen_here", "_law_deep"] (defScope s_law_border) := ⟨rfl, rfl, rfl, by decide +kernel, rfl, by decide +kernel, by decide +kernel⟩
theorem sc_law_window : FnScope ["_law_pen_here", "_law_far", "_law_limit", "_law_west", "_law_north"] ["_law_pen_here", "_law_far", "_law_limit"] (defScope s_law_window) := ⟨rfl, rfl, rfl, by decide +kernel, rfl, by decide +kernel, by decide +kernel⟩
theorem sc_law_one_back : FnScope ["_law_edge", "_law_first", "_law_many", "_law_place", "_law_far"] ["_law_edge", "_law_first", "_law_many", "_law_place"] (defScope s_law_one_back) := ⟨rfl, rfl, rfl, by decide +kernel, rfl, by decide +kernel, by decide +kernel⟩
theorem sc_law_back : FnScope ["_law_edge", "_law_window_here", "_law_x", "_law_y", "_law_west", "_law_north", "_law_broad", "_law_tall"] ["_law_edge", "_law_window_here", "_law_x", "_law_y"] (defScope s_law_back) := ⟨rfl, rfl, rfl, by decide +kernel, rfl, by decide +kernel, by decide +kernel⟩
theorem sc_law_shape : FnScope ["_law_stages", "_law_name", "_law_stage", "_law_planes_here", "_law_deep"] ["_law_stages", "_law_name"] (defScope s_law_shape) := ⟨rfl, rfl, rfl, by decide +kernel, rfl, by decide +kernel, by decide +kernel⟩
theorem sc_law_plain : FnScope ["_law_stages", "_law_memo", "_law_name", "_law_x", "_law_y", "_law_p", "_law_stage", "_law_window_here", "_law_cell", "_law_row"] ["_law_stages", "_law_memo", "_law_name", "_law_x", "_law_y", "_law_p"] (defScope s_law_plain) := ⟨rfl, rfl, rfl, by decide +kernel, rfl, by decide +kernel, by decide +kernel⟩
theorem sc_law_whole : FnScope ["_law_stages", "_law_name", "_law_window_here", "_law_planes_here", "_law_deep", "_law_west", "_law_north", "_law_broad", "_law_tall", "_law_memo", "_law_found", "_law_p", "_law_rows", "_law_y", "_law_x"] ["_law_stages", "_law_name", "_law_window_here"] (defScope s_law_whole) := ⟨rfl, rfl, rfl, by decide +kernel, rfl, by decide +kernel, by decide +kernel⟩
theorem sc_law_same : FnScope ["_law_found", "_law_due", "_law_one", "_law_other"] ["_law_found", "_law_due"] (defScope s_law_same) := ⟨rfl, rfl, rfl, by decide +kernel, rfl, by decide +kernel, by decide +kernel⟩
theorem sc_law_seen_right : FnScope ["_law_net", "_law_stages", "_law_name", "_law_window_here", "_law_told", "_law_due"] ["_law_net", "_law_stages", "_law_name", "_law_window_here"] (defScope s_law_seen_right) := ⟨rfl, rfl, rfl, by decide +kernel, rfl, by decide +kernel, by decide +kernel⟩
theorem sc_law_table : FnScope ["_law_pen_here", "_law_deep", "_law_fresh", "_law_lot", "_law_first", "_law_step", "_law_number"] ["_law_pen_here", "_law_deep", "_law_fresh"] (defScope s_law_table) := ⟨rfl, rfl, rfl, by decide +kernel, rfl, by decide +kernel, by decide +kernel⟩
theorem sc_law_link : FnScope ["_law_pen_here", "_law_name", "_law_deep", "_law_lot", "_law_far", "_law_fresh"] ["_law_pen_here", "_law_name", "_law_deep"] (defScope s_law_link) := ⟨rfl, rfl, rfl, by decide +kernel, rfl, by decide +kernel, by decide +kernel⟩
theorem sc_law_at : FnScope ["_law_stages", "_law_memo", "_law_name", "_law_x", "_law_y", "_law_p"] ["_law_stages", "_law_memo", "_law_name", "_law_x", "_law_y", "_law_p"] (defScope s_law_at) := ⟨rfl, rfl, rfl, by decide +kernel, rfl, by decide +kernel, by decide +kernel⟩
theorem sc_law_numbers : FnScope ["_law_stages", "_law_name", "_law_stage", "_law_found", "_law_rows", "_law_row", "_law_number"] ["_law_stages", "_law_name"] (defScope s_law_numbers) := ⟨rfl, rfl, rfl, by decide +kernel, rfl, by decide +kernel, by decide +kernel⟩
theorem sc_law : FnScope ["_law_script", "_law_pen_here", "_law_k", "_law_names_here", "_law_deep", "_law_picture_here", "_law_stages", "_law_net", "_law_j", "_law_stage", "_law_name", "_law_window_here", "_law_there", "_law_rows", "_law_row", "_law_number"] ["_law_script"] (defScope s_law) := ⟨rfl, rfl, rfl, by decide +kernel, rfl, by decide +kernel, by decide +kernel⟩
def dd_is_whole : He.DefD := ⟨("is_whole", none), "is_whole", "is_whole", defArgs s_is_whole, defBody s_is_whole, defScope s_is_whole, [], []⟩
def dd_is_from : He.DefD := ⟨("is_from", none), "is_from", "is_from", defArgs s_is_from, defBody s_is_from, defScope s_is_from, [], []⟩
def dd_is_name : He.DefD := ⟨("is_name", none), "is_name", "is_name", defArgs s_is_name, defBody s_is_name, defScope s_is_name, [], []⟩
def dd_are_wholes : He.DefD := ⟨("are_wholes", none), "are_wholes", "are_wholes", defArgs s_are_wholes, defBody s_are_wholes, defScope s_are_wholes, [], []⟩
def dd_are_rows : He.DefD := ⟨("are_rows", none), "are_rows", "are_rows", defArgs s_are_rows, defBody s_are_rows, defScope s_are_rows, [], []⟩
def dd_is_window : He.DefD := ⟨("is_window", none), "is_window", "is_window", defArgs s_is_window, defBody s_is_window, defScope s_is_window, [], []⟩
def dd_lies_in : He.DefD := ⟨("lies_in", none), "lies_in", "lies_in", defArgs s_lies_in, defBody s_lies_in, defScope s_lies_in, [], []⟩
def dd_are_planes : He.DefD := ⟨("are_planes", none), "are_planes", "are_planes", defArgs s_are_planes, defBody s_are_planes, defScope s_are_planes, [], []⟩
def dd_Picture_init : He.DefD := ⟨("Picture", some "__init__"), "__init__", "Picture.__init__", defArgs s_Picture_init, defBody s_Picture_init, defScope s_Picture_init, [], [("left", .int 0), ("up", .int 0), ("depth", .int 255)]⟩
def dd_Picture_window : He.DefD := ⟨("Picture", some "window"), "window", "Picture.window", defArgs s_Picture_window, defBody s_Picture_window, defScope s_Picture_window, [], []⟩
def dd_is_border : He.DefD := ⟨("is_border", none), "is_border", "is_border", defArgs s_is_border, defBody s_is_border, defScope s_is_border, [], []⟩
def dd_folded_one : He.DefD := ⟨("folded_one", none), "folded_one", "folded_one", defArgs s_folded_one, defBody s_folded_one, defScope s_folded_one, [], []⟩
def dd_folded : He.DefD := ⟨("folded", none), "folded", "folded", defArgs s_folded, defBody s_folded, defScope s_folded, [], []⟩
def dd_must_fit_border : He.DefD := ⟨("must_fit_border", none), "must_fit_border", "must_fit_border", defArgs s_must_fit_border, defBody s_must_fit_border, defScope s_must_fit_border, [], []⟩
def dd_is_source : He.DefD := ⟨("is_source", none), "is_source", "is_source", defArgs s_is_source, defBody s_is_source, defScope s_is_source, [], []⟩
def dd_shape_of_source : He.DefD := ⟨("shape_of_source", none), "shape_of_source", "shape_of_source", defArgs s_shape_of_source, defBody s_shape_of_source, defScope s_shape_of_source, [], []⟩
def dd_tell_source : He.DefD := ⟨("tell_source", none), "tell_source", "tell_source", defArgs s_tell_source, defBody s_tell_source, defScope s_tell_source, [], []⟩
def dd_is_framed : He.DefD := ⟨("is_framed", none), "is_framed", "is_framed", defArgs s_is_framed, defBody s_is_framed, defScope s_is_framed, [], []⟩
def dd_shape_of_framed : He.DefD := ⟨("shape_of_framed", none), "shape_of_framed", "shape_of_framed", defArgs s_shape_of_framed, defBody s_shape_of_framed, defScope s_shape_of_framed, [], []⟩
def dd_tell_framed : He.DefD := ⟨("tell_framed", none), "tell_framed", "tell_framed", defArgs s_tell_framed, defBody s_tell_framed, defScope s_tell_framed, [], []⟩
def dd_same_shape : He.DefD := ⟨("same_shape", none), "same_shape", "same_shape", defArgs s_same_shape, defBody s_same_shape, defScope s_same_shape, [], []⟩
def dd_tell_cell : He.DefD := ⟨("tell_cell", none), "tell_cell", "tell_cell", defArgs s_tell_cell, defBody s_tell_cell, defScope s_tell_cell, [], []⟩
def dd_is_moved : He.DefD := ⟨("is_moved", none), "is_moved", "is_moved", defArgs s_is_moved, defBody s_is_moved, defScope s_is_moved, [], []⟩
def dd_place_of_moved : He.DefD := ⟨("place_of_moved", none), "place_of_moved", "place_of_moved", defArgs s_place_of_moved, defBody s_place_of_moved, defScope s_place_of_moved, [], []⟩
def dd_is_flipped : He.DefD := ⟨("is_flipped", none), "is_flipped", "is_flipped", defArgs s_is_flipped, defBody s_is_flipped, defScope s_is_flipped, [], []⟩
def dd_place_of_flipped : He.DefD := ⟨("place_of_flipped", none), "place_of_flipped", "place_of_flipped", defArgs s_place_of_flipped, defBody s_place_of_flipped, defScope s_place_of_flipped, [], []⟩
def dd_is_turned : He.DefD := ⟨("is_turned", none), "is_turned", "is_turned", defArgs s_is_turned, defBody s_is_turned, defScope s_is_turned, [], []⟩
def dd_place_of_turned : He.DefD := ⟨("place_of_turned", none), "place_of_turned", "place_of_turned", defArgs s_place_of_turned, defBody s_place_of_turned, defScope s_place_of_turned, [], []⟩
def dd_is_curved : He.DefD := ⟨("is_curved", none), "is_curved", "is_curved", defArgs s_is_curved, defBody s_is_curved, defScope s_is_curved, [], []⟩
def dd_shape_of_curved : He.DefD := ⟨("shape_of_curved", none), "shape_of_curved", "shape_of_curved", defArgs s_shape_of_curved, defBody s_shape_of_curved, defScope s_shape_of_curved, [], []⟩
def dd_tell_curved : He.DefD := ⟨("tell_curved", none), "tell_curved", "tell_curved", defArgs s_tell_curved, defBody s_tell_curved, defScope s_tell_curved, [], []⟩
def dd_row_of : He.DefD := ⟨("row_of", none), "row_of", "row_of", defArgs s_row_of, defBody s_row_of, defScope s_row_of, [], []⟩
def dd_is_stage : He.DefD := ⟨("is_stage", none), "is_stage", "is_stage", defArgs s_is_stage, defBody s_is_stage, defScope s_is_stage, [], []⟩
def dd_has_no_divisor : He.DefD := ⟨("has_no_divisor", none), "has_no_divisor", "has_no_divisor", defArgs s_has_no_divisor, defBody s_has_no_divisor, defScope s_has_no_divisor, [], []⟩
def dd_made_of : He.DefD := ⟨("made_of", none), "made_of", "made_of", defArgs s_made_of, defBody s_made_of, defScope s_made_of, [], []⟩
def dd_shape_by : He.DefD := ⟨("shape_by", none), "shape_by", "shape_by", defArgs s_shape_by, defBody s_shape_by, defScope s_shape_by, [], []⟩
def dd_told_by : He.DefD := ⟨("told_by", none), "told_by", "told_by", defArgs s_told_by, defBody s_told_by, defScope s_told_by, [], []⟩
def dd_first_missing : He.DefD := ⟨("first_missing", none), "first_missing", "first_missing", defArgs s_first_missing, defBody s_first_missing, defScope s_first_missing, [], []⟩
def dd_in_order : He.DefD := ⟨("in_order", none), "in_order", "in_order", defArgs s_in_order, defBody s_in_order, defScope s_in_order, [], []⟩
def dd_shapes_of : He.DefD := ⟨("shapes_of", none), "shapes_of", "shapes_of", defArgs s_shapes_of, defBody s_shapes_of, defScope s_shapes_of, [], []⟩
def dd_numbers_at : He.DefD := ⟨("numbers_at", none), "numbers_at", "numbers_at", defArgs s_numbers_at, defBody s_numbers_at, defScope s_numbers_at, [], []⟩
def dd_planes_by : He.DefD := ⟨("planes_by", none), "planes_by", "planes_by", defArgs s_planes_by, defBody s_planes_by, defScope s_planes_by, [], []⟩
def dd_must_be_there : He.DefD := ⟨("must_be_there", none), "must_be_there", "must_be_there", defArgs s_must_be_there, defBody s_must_be_there, defScope s_must_be_there, [], []⟩
def dd_must_be_window : He.DefD := ⟨("must_be_window", none), "must_be_window", "must_be_window", defArgs s_must_be_window, defBody s_must_be_window, defScope s_must_be_window, [], []⟩
def dd_Net_init : He.DefD := ⟨("Net", some "__init__"), "__init__", "Net.__init__", defArgs s_Net_init, defBody s_Net_init, defScope s_Net_init, [], []⟩
def dd_Net_put : He.DefD := ⟨("Net", some "put"), "put", "Net.put", defArgs s_Net_put, defBody s_Net_put, defScope s_Net_put, [], []⟩
def dd_Net_shape : He.DefD := ⟨("Net", some "shape"), "shape", "Net.shape", defArgs s_Net_shape, defBody s_Net_shape, defScope s_Net_shape, [], []⟩
def dd_Net_whole : He.DefD := ⟨("Net", some "whole"), "whole", "Net.whole", defArgs s_Net_whole, defBody s_Net_whole, defScope s_Net_whole, [], []⟩
def dd_law_pen : He.DefD := ⟨("_law_pen", none), "_law_pen", "_law_pen", defArgs s_law_pen, defBody s_law_pen, defScope s_law_pen, [], []⟩
def dd_law_draw : He.DefD := ⟨("_law_draw", none), "_law_draw", "_law_draw", defArgs s_law_draw, defBody s_law_draw, defScope s_law_draw, [], []⟩
def dd_law_names : He.DefD := ⟨("_law_names", none), "_law_names", "_law_names", defArgs s_law_names, defBody s_law_names, defScope s_law_names, [], []⟩
def dd_law_planes : He.DefD := ⟨("_law_planes", none), "_law_planes", "_law_planes", defArgs s_law_planes, defBody s_law_planes, defScope s_law_planes, [], []⟩
def dd_law_picture : He.DefD := ⟨("_law_picture", none), "_law_picture", "_law_picture", defArgs s_law_picture, defBody s_law_picture, defScope s_law_picture, [], []⟩
def dd_law_border : He.DefD := ⟨("_law_border", none), "_law_border", "_law_border", defArgs s_law_border, defBody s_law_border, defScope s_law_border, [], []⟩
def dd_law_window : He.DefD := ⟨("_law_window", none), "_law_window", "_law_window", defArgs s_law_window, defBody s_law_window, defScope s_law_window, [], []⟩
def dd_law_one_back : He.DefD := ⟨("_law_one_back", none), "_law_one_back", "_law_one_back", defArgs s_law_one_back, defBody s_law_one_back, defScope s_law_one_back, [], []⟩
def dd_law_back : He.DefD := ⟨("_law_back", none), "_law_back", "_law_back", defArgs s_law_back, defBody s_law_back, defScope s_law_back, [], []⟩
def dd_law_shape : He.DefD := ⟨("_law_shape", none), "_law_shape", "_law_shape", defArgs s_law_shape, defBody s_law_shape, defScope s_law_shape, [], []⟩
def dd_law_plain : He.DefD := ⟨("_law_plain", none), "_law_plain", "_law_plain", defArgs s_law_plain, defBody s_law_plain, defScope s_law_plain, [], []⟩
def dd_law_whole : He.DefD := ⟨("_law_whole", none), "_law_whole", "_law_whole", defArgs s_law_whole, defBody s_law_whole, defScope s_law_whole, [], []⟩
def dd_law_same : He.DefD := ⟨("_law_same", none), "_law_same", "_law_same", defArgs s_law_same, defBody s_law_same, defScope s_law_same, [], []⟩
def dd_law_seen_right : He.DefD := ⟨("_law_seen_right", none), "_law_seen_right", "_law_seen_right", defArgs s_law_seen_right, defBody s_law_seen_right, defScope s_law_seen_right, [], []⟩
def dd_law_table : He.DefD := ⟨("_law_table", none), "_law_table", "_law_table", defArgs s_law_table, defBody s_law_table, defScope s_law_table, [], []⟩
def dd_law_link : He.DefD := ⟨("_law_link", none), "_law_link", "_law_link", defArgs s_law_link, defBody s_law_link, defScope s_law_link, [], []⟩
def dd_law_at : He.DefD := ⟨("_law_at", none), "_law_at", "_law_at", defArgs s_law_at, defBody s_law_at, defScope s_law_at, [], []⟩
def dd_law_numbers : He.DefD := ⟨("_law_numbers", none), "_law_numbers", "_law_numbers", defArgs s_law_numbers, defBody s_law_numbers, defScope s_law_numbers, [], []⟩
def dd_law : He.DefD := ⟨("law", none), "law", "law", defArgs s_law, defBody s_law, defScope s_law, [], []⟩
def fn : List He.DefD := [dd_is_whole, dd_is_from, dd_is_name, dd_are_wholes, dd_are_rows, dd_is_window, dd_lies_in, dd_are_planes, dd_Picture_init, dd_Picture_window, dd_is_border, dd_folded_one, dd_folded, dd_must_fit_border, dd_is_source, dd_shape_of_source, dd_tell_source, dd_is_framed, dd_shape_of_framed, dd_tell_framed, dd_same_shape, dd_tell_cell, dd_is_moved, dd_place_of_moved, dd_is_flipped, dd_place_of_flipped, dd_is_turned, dd_place_of_turned, dd_is_curved, dd_shape_of_curved, dd_tell_curved, dd_row_of, dd_is_stage, dd_has_no_divisor, dd_made_of, dd_shape_by, dd_told_by, dd_first_missing, dd_in_order, dd_shapes_of, dd_numbers_at, dd_planes_by, dd_must_be_there, dd_must_be_window, dd_Net_init, dd_Net_put, dd_Net_shape, dd_Net_whole, dd_law_pen, dd_law_draw, dd_law_names, dd_law_planes, dd_law_picture, dd_law_border, dd_law_window, dd_law_one_back, dd_law_back, dd_law_shape, dd_law_plain, dd_law_whole, dd_law_same, dd_law_seen_right, dd_law_table, dd_law_link, dd_law_at, dd_law_numbers, dd_law]
def fa0 : List He.Fa := [.glo "is_whole", .glo "is_from", .glo "is_name", .glo "are_wholes", .glo "are_rows", .glo "is_window", .glo "lies_in", .glo "are_planes", .glo "is_border", .glo "folded_one", .glo "folded", .glo "must_fit_border", .glo "is_source", .glo "shape_of_source", .glo "tell_source", .glo "is_framed", .glo "shape_of_framed", .glo "tell_framed", .glo "same_shape", .glo "tell_cell"]
def fa1 : List He.Fa := [.glo "is_moved", .glo "place_of_moved", .glo "is_flipped", .glo "place_of_flipped", .glo "is_turned", .glo "place_of_turned", .glo "is_curved", .glo "shape_of_curved", .glo "tell_curved", .glo "row_of", .glo "is_stage", .glo "has_no_divisor", .glo "made_of", .glo "shape_by", .glo "told_by", .glo "first_missing", .glo "in_order", .glo "shapes_of", .glo "numbers_at", .glo "planes_by"]
def fa2 : List He.Fa := [.glo "must_be_there", .glo "must_be_window", .glo "_law_pen", .glo "_law_draw", .glo "_law_names", .glo "_law_planes", .glo "_law_picture", .glo "_law_border", .glo "_law_window", .glo "_law_one_back", .glo "_law_back", .glo "_law_shape", .glo "_law_plain", .glo "_law_whole", .glo "_law_same", .glo "_law_seen_right", .glo "_law_table", .glo "_law_link", .glo "_law_at", .glo "_law_numbers"]
def fa3 : List He.Fa := [.glo "law", .glo "cells_of_source", .glo "cells_of_framed", .glo "cells_of_place", .glo "cells_of_own", .glo "Picture", .glo "Net", .glo "BORDERS", .glo "TABLES", .glo "GEOMETRY", .glo "KINDS_OF_PLACE", .glo "PLACES_OF_BY", .glo "COLOURS", .glo "FILTERS", .glo "MEANS", .glo "SUMS", .free "isinstance", .free "int", .free "bool", .free "str"]
def fa4 : List He.Fa := [.free "len", .free "all", .free "tuple", .free "list", .free "range", .free "max", .free "min", .free "dict", .free "zip", .int "LONGEST_NAME" 8, .int "FARTHEST" 1000, .int "WIDEST" 48, .int "DEPTH" 255, .int "MOST_PLANES" 4, .int "DEEPEST" 65535, .int "FARTHEST_MOVE" 500, .int "MOST_STAGES" 24, .str "LETTERS" "abcdefghijklmnopqrstuvwxyz", .str "NEAR" "near", .str "WRAPPED" "wrapped"]
def fa5 : List He.Fa := [.str "MIRRORED" "mirrored", .cls "Picture", .mkr "Picture", .noat "Picture" "planes", .noat "Picture" "left", .noat "Picture" "up", .noat "Picture" "depth", .meth "Picture" "window", .cls "Net", .mkr "Net", .noat "Net" "stages", .noat "Net" "shapes", .meth "Net" "put", .meth "Net" "shape", .meth "Net" "whole"]
def fa : List He.Fa := fa0 ++ fa1 ++ fa2 ++ fa3 ++ fa4 ++ fa5
/-- what a written dict holds at a key, if it is an object -/
def rowAd (x : Str) (K : PySem.W.Frag) : Addr := match PySem.W.nsIn K (He.ga K "GEOMETRY") x with
  | some (some (.ref a)) => a
  | _ => 0
def tupAtB (K : PySem.W.Frag) (a : Addr) (vs : List He.Dv) : Bool := match K.lookup a with
  | some ⟨.type c, _, .seq its _, _⟩ => decide (c = "tuple") && (decide (its.size ≤ sizeLine) && He.relAll (vs.map (He.Dv.v K)) its.toList)
  | _ => false
def row_source : List He.Dv := [.int 0, .int 3, .glo "is_source", .glo "shape_of_source", .glo "cells_of_source", .glo "tell_source"]
def row_framed : List He.Dv := [.int 1, .int 4, .glo "is_framed", .glo "shape_of_framed", .glo "cells_of_framed", .glo "tell_framed"]
def row_moved : List He.Dv := [.int 1, .int 4, .glo "is_moved", .glo "same_shape", .glo "cells_of_place", .glo "tell_cell"]
def row_flipped : List He.Dv := [.int 1, .int 3, .glo "is_flipped", .glo "same_shape", .glo "cells_of_place", .glo "tell_cell"]
def row_turned : List He.Dv := [.int 1, .int 2, .glo "is_turned", .glo "same_shape", .glo "cells_of_place", .glo "tell_cell"]
def row_curved : List He.Dv := [.int 1, .int 4, .glo "is_curved", .glo "shape_of_curved", .glo "cells_of_own", .glo "tell_curved"]
def rows : List (Str × List He.Dv) := [("source", row_source), ("framed", row_framed), ("moved", row_moved), ("flipped", row_flipped), ("turned", row_turned), ("curved", row_curved)]
def geoKeys : List Str := ["source", "framed", "moved", "flipped", "turned", "curved"]
def plaKeys : List Str := ["moved", "flipped", "turned"]
def byKeys : List Str := ["mixed", "filtered"]
def ts : List He.Tab := [(fun K => He.ga K "GEOMETRY", geoKeys), (fun K => He.ga K "KINDS_OF_PLACE", plaKeys), (fun K => He.ga K "PLACES_OF_BY", byKeys)]
def tf : List He.Defn := [("numbers_at", none), ("Net", some "whole")]
def isaB (K : PySem.W.Frag) (C : Addr) : Bool := decide (PySem.W.findIn K (.ref C) "__class__" = some (some (.builtin "object.__class__"))) && (decide (PySem.W.specialIn K (.builtin "object.__class__") "__get__" = some (some (.builtin "getset_descriptor.__get__"))) && (decide (PySem.W.takesIn K (.builtin "object.__class__") = some true) && (decide (PySem.W.mroIn K C (.type "object") = some true) && decide (PySem.W.kitOne K (.ref C) (.ref C) = some true))))
def ex (K : PySem.W.Frag) : Bool := He.tupB K "BORDERS" [.str "near", .str "wrapped", .str "mirrored"] && (He.tupB K "TABLES" [.glo "GEOMETRY", .glo "COLOURS", .glo "FILTERS", .glo "MEANS", .glo "SUMS"] && (He.valsB K (He.ga K "GEOMETRY") (rows.map fun r => (r.1, .adr (rowAd r.1))) && ((rows.all fun r => tupAtB K (rowAd r.1 K) r.2) && (He.valsB K (He.ga K "KINDS_OF_PLACE") [("moved", .glo "place_of_moved"), ("flipped", .glo "place_of_flipped"), ("turned", .glo "place_of_turned")] &&
  (isaB K (He.ga K "Picture") && (geoKeys.all fun x => decide (PySem.W.nsIn K (He.ga K "PLACES_OF_BY") x = some none)))))))
def loose0 : List Str := ["_wall", "PixelError", "NoPicture", "NoStage", "NoName", "NoShape", "Ring", "TooMany", "NoTone", "Missing", "NoWindow", "NoDivisor", "LETTERS", "LONGEST_NAME", "FARTHEST", "WIDEST", "is_whole", "is_from", "is_name", "are_wholes"]
def loose1 : List Str := ["are_rows", "is_window", "lies_in", "cells_of", "DEPTH", "MOST_PLANES", "DEEPEST", "are_planes", "Picture", "NEAR", "WRAPPED", "MIRRORED", "BORDERS", "FARTHEST_MOVE", "is_border", "folded_one", "folded", "must_fit_border", "is_source", "shape_of_source"]
def loose2 : List Str := ["cells_of_source", "tell_source", "is_framed", "shape_of_framed", "cells_of_framed", "tell_framed", "same_shape", "tell_cell", "is_moved", "place_of_moved", "is_flipped", "place_of_flipped", "is_turned", "place_of_turned", "KINDS_OF_PLACE", "cells_of_place", "is_curved", "shape_of_curved", "cells_of_own", "tell_curved"]
def loose3 : List Str := ["GEOMETRY", "MOST_WEIGHT", "MOST_BY", "MOST_PLUS", "MOST_ROWS", "MOST_PLACES", "FARTHEST_PLACE", "rounded", "are_roundings", "are_weights", "is_filtered", "weighed_places", "cells_of_filtered", "tell_filtered", "is_form", "is_ranked", "cells_of_ranked", "tell_ranked", "FILTERS", "MOST_STEPS"]
def loose4 : List Str := ["MOST_STEP_WEIGHT", "MOST_SHIFT", "is_step", "is_lifted", "shape_of_lifted", "far_by", "lifted_numbers", "unlifted_numbers", "numbers_of", "tell_lifted", "tell_unlifted", "is_mixed", "shape_of_mixed", "cells_of_mixed", "tell_mixed", "COLOURS", "MOST_SIDE", "are_sides", "cells_of_reduced", "tell_reduced"]
def loose5 : List Str := ["cells_of_enlarged", "tell_enlarged", "is_band", "cells_of_band", "far_of_pair", "tell_far_band", "tell_near_band", "is_paired", "shape_of_paired", "cells_of_paired", "tell_paired", "MEANS", "LEAST", "GREATEST", "SUM", "GAP", "has_window", "cells_of_summed", "tell_summed", "cells_of_unsummed"]
def loose6 : List Str := ["tell_unsummed", "cells_of_levelled", "tell_levelled", "met_sum", "met_gap", "met_least", "met_greatest", "WAYS", "is_met", "shape_of_two", "tell_met", "is_of_names", "tell_chosen", "shape_of_own", "tell_own", "SUMS", "TABLES", "PLACES_OF_BY", "row_of", "is_stage"]
def loose7 : List Str := ["has_no_divisor", "made_of", "shape_by", "told_by", "MOST_STAGES", "first_missing", "in_order", "shapes_of", "numbers_at", "planes_by", "must_be_there", "must_be_window", "Net", "_law_pen", "_law_draw", "_law_names", "_law_planes", "_law_picture", "_law_border", "_law_window"]
def loose8 : List Str := ["_law_one_back", "_law_back", "_law_shape", "_law_plain", "_law_whole", "_law_same", "_law_seen_right", "_law_table", "_law_link", "_law_at", "_law_numbers"]
def loose : List Str := loose0 ++ loose1 ++ loose2 ++ loose3 ++ loose4 ++ loose5 ++ loose6 ++ loose7 ++ loose8
/-- what the head tells -/
structure Tx (w : World) (K : PySem.W.Frag) (mg : Str → Option Value) : Prop where
  said : ∃ h, K.In h ∧ h.Ns mainGlobals mg ∧ He.SaysX fa fn ts tf ex w h K
section
variable {w : World} {K : PySem.W.Frag} {mg : Str → Option Value}
theorem Tx.fact (T : Tx w K mg) (i : Nat) {f : He.Fa} (e : fa[i]? = some f) : f.ok K = true := by
  obtain ⟨h, _, _, c⟩ := T.said
  exact c.t.d.fact i e
theorem Tx.glo (T : Tx w K mg) (i : Nat) {x : Str} (e : fa[i]? = some (.glo x)) : mg x = some (.ref (He.ga K x)) := by
  obtain ⟨h, X, G, c⟩ := T.said
  exact He.glo_ok X G (c.t.d.fact i e)
theorem Tx.free (T : Tx w K mg) (i : Nat) {x : Str} (e : fa[i]? = some (.free x)) : mg x = none := by
  obtain ⟨h, X, G, c⟩ := T.said
  exact He.free_ok X G (c.t.d.fact i e)
theorem Tx.int (T : Tx w K mg) (i : Nat) {x : Str} {n : Int} (e : fa[i]? = some (.int x n)) : ∃ u, mg x = some u ∧ RelV (.int n) u := by
  obtain ⟨h, X, G, c⟩ := T.said
  obtain ⟨t, q⟩ := He.int_ok X G (c.t.d.fact i e)
  exact ⟨_, q, t, rfl⟩
theorem Tx.str (T : Tx w K mg) (i : Nat) {x z : Str} (e : fa[i]? = some (.str x z)) : ∃ u, mg x = some u ∧ RelV (.str z) u := by
  obtain ⟨h, X, G, c⟩ := T.said
  obtain ⟨t, q⟩ := He.str_ok X G (c.t.d.fact i e)
  exact ⟨_, q, t, rfl⟩
theorem Tx.def_ (T : Tx w K mg) (i : Nat) {d : He.DefD} (e : fn[i]? = some d) : ∃ fd, FunD K d.name d.qual d.params d.body d.scope (d.dvs K) (d.kws K) (He.fAd K d.at_) fd := by
  obtain ⟨h, _, _, c⟩ := T.said
  exact c.t.d.def_ i e
theorem Tx.g_is_whole (T : Tx w K mg) : mg "is_whole" = some (.ref (He.ga K "is_whole")) := T.glo 0 rfl
theorem Tx.g_is_from (T : Tx w K mg) : mg "is_from" = some (.ref (He.ga K "is_from")) := T.glo 1 rfl
theorem Tx.g_is_name (T : Tx w K mg) : mg "is_name" = some (.ref (He.ga K "is_name")) := T.glo 2 rfl
theorem Tx.g_are_wholes (T : Tx w K mg) : mg "are_wholes" = some (.ref (He.ga K "are_wholes")) := T.glo 3 rfl
theorem Tx.g_are_rows (T : Tx w K mg) : mg "are_rows" = some (.ref (He.ga K "are_rows")) := T.glo 4 rfl
theorem Tx.g_is_window (T : Tx w K mg) : mg "is_window" = some (.ref (He.ga K "is_window")) := T.glo 5 rfl
theorem Tx.g_lies_in (T : Tx w K mg) : mg "lies_in" = some (.ref (He.ga K "lies_in")) := T.glo 6 rfl
theorem Tx.g_are_planes (T : Tx w K mg) : mg "are_planes" = some (.ref (He.ga K "are_planes")) := T.glo 7 rfl
theorem Tx.g_is_border (T : Tx w K mg) : mg "is_border" = some (.ref (He.ga K "is_border")) := T.glo 8 rfl
theorem Tx.g_folded_one (T : Tx w K mg) : mg "folded_one" = some (.ref (He.ga K "folded_one")) := T.glo 9 rfl
theorem Tx.g_folded (T : Tx w K mg) : mg "folded" = some (.ref (He.ga K "folded")) := T.glo 10 rfl
theorem Tx.g_must_fit_border (T : Tx w K mg) : mg "must_fit_border" = some (.ref (He.ga K "must_fit_border")) := T.glo 11 rfl
theorem Tx.g_is_source (T : Tx w K mg) : mg "is_source" = some (.ref (He.ga K "is_source")) := T.glo 12 rfl
theorem Tx.g_shape_of_source (T : Tx w K mg) : mg "shape_of_source" = some (.ref (He.ga K "shape_of_source")) := T.glo 13 rfl
theorem Tx.g_tell_source (T : Tx w K mg) : mg "tell_source" = some (.ref (He.ga K "tell_source")) := T.glo 14 rfl
theorem Tx.g_is_framed (T : Tx w K mg) : mg "is_framed" = some (.ref (He.ga K "is_framed")) := T.glo 15 rfl
theorem Tx.g_shape_of_framed (T : Tx w K mg) : mg "shape_of_framed" = some (.ref (He.ga K "shape_of_framed")) := T.glo 16 rfl
theorem Tx.g_tell_framed (T : Tx w K mg) : mg "tell_framed" = some (.ref (He.ga K "tell_framed")) := T.glo 17 rfl
theorem Tx.g_same_shape (T : Tx w K mg) : mg "same_shape" = some (.ref (He.ga K "same_shape")) := T.glo 18 rfl
theorem Tx.g_tell_cell (T : Tx w K mg) : mg "tell_cell" = some (.ref (He.ga K "tell_cell")) := T.glo 19 rfl
theorem Tx.g_is_moved (T : Tx w K mg) : mg "is_moved" = some (.ref (He.ga K "is_moved")) := T.glo 20 rfl
theorem Tx.g_place_of_moved (T : Tx w K mg) : mg "place_of_moved" = some (.ref (He.ga K "place_of_moved")) := T.glo 21 rfl
theorem Tx.g_is_flipped (T : Tx w K mg) : mg "is_flipped" = some (.ref (He.ga K "is_flipped")) := T.glo 22 rfl
theorem Tx.g_place_of_flipped (T : Tx w K mg) : mg "place_of_flipped" = some (.ref (He.ga K "place_of_flipped")) := T.glo 23 rfl
theorem Tx.g_is_turned (T : Tx w K mg) : mg "is_turned" = some (.ref (He.ga K "is_turned")) := T.glo 24 rfl
theorem Tx.g_place_of_turned (T : Tx w K mg) : mg "place_of_turned" = some (.ref (He.ga K "place_of_turned")) := T.glo 25 rfl
theorem Tx.g_is_curved (T : Tx w K mg) : mg "is_curved" = some (.ref (He.ga K "is_curved")) := T.glo 26 rfl
theorem Tx.g_shape_of_curved (T : Tx w K mg) : mg "shape_of_curved" = some (.ref (He.ga K "shape_of_curved")) := T.glo 27 rfl
theorem Tx.g_tell_curved (T : Tx w K mg) : mg "tell_curved" = some (.ref (He.ga K "tell_curved")) := T.glo 28 rfl
theorem Tx.g_row_of (T : Tx w K mg) : mg "row_of" = some (.ref (He.ga K "row_of")) := T.glo 29 rfl
theorem Tx.g_is_stage (T : Tx w K mg) : mg "is_stage" = some (.ref (He.ga K "is_stage")) := T.glo 30 rfl
theorem Tx.g_has_no_divisor (T : Tx w K mg) : mg "has_no_divisor" = some (.ref (He.ga K "has_no_divisor")) := T.glo 31 rfl
theorem Tx.g_made_of (T : Tx w K mg) : mg "made_of" = some (.ref (He.ga K "made_of")) := T.glo 32 rfl
theorem Tx.g_shape_by (T : Tx w K mg) : mg "shape_by" = some (.ref (He.ga K "shape_by")) := T.glo 33 rfl
theorem Tx.g_told_by (T : Tx w K mg) : mg "told_by" = some (.ref (He.ga K "told_by")) := T.glo 34 rfl
theorem Tx.g_first_missing (T : Tx w K mg) : mg "first_missing" = some (.ref (He.ga K "first_missing")) := T.glo 35 rfl
theorem Tx.g_in_order (T : Tx w K mg) : mg "in_order" = some (.ref (He.ga K "in_order")) := T.glo 36 rfl
theorem Tx.g_shapes_of (T : Tx w K mg) : mg "shapes_of" = some (.ref (He.ga K "shapes_of")) := T.glo 37 rfl
theorem Tx.g_numbers_at (T : Tx w K mg) : mg "numbers_at" = some (.ref (He.ga K "numbers_at")) := T.glo 38 rfl
theorem Tx.g_planes_by (T : Tx w K mg) : mg "planes_by" = some (.ref (He.ga K "planes_by")) := T.glo 39 rfl
theorem Tx.g_must_be_there (T : Tx w K mg) : mg "must_be_there" = some (.ref (He.ga K "must_be_there")) := T.glo 40 rfl
theorem Tx.g_must_be_window (T : Tx w K mg) : mg "must_be_window" = some (.ref (He.ga K "must_be_window")) := T.glo 41 rfl
theorem Tx.g_law_pen (T : Tx w K mg) : mg "_law_pen" = some (.ref (He.ga K "_law_pen")) := T.glo 42 rfl
theorem Tx.g_law_draw (T : Tx w K mg) : mg "_law_draw" = some (.ref (He.ga K "_law_draw")) := T.glo 43 rfl
theorem Tx.g_law_names (T : Tx w K mg) : mg "_law_names" = some (.ref (He.ga K "_law_names")) := T.glo 44 rfl
theorem Tx.g_law_planes (T : Tx w K mg) : mg "_law_planes" = some (.ref (He.ga K "_law_planes")) := T.glo 45 rfl
theorem Tx.g_law_picture (T : Tx w K mg) : mg "_law_picture" = some (.ref (He.ga K "_law_picture")) := T.glo 46 rfl
theorem Tx.g_law_border (T : Tx w K mg) : mg "_law_border" = some (.ref (He.ga K "_law_border")) := T.glo 47 rfl
theorem Tx.g_law_window (T : Tx w K mg) : mg "_law_window" = some (.ref (He.ga K "_law_window")) := T.glo 48 rfl
theorem Tx.g_law_one_back (T : Tx w K mg) : mg "_law_one_back" = some (.ref (He.ga K "_law_one_back")) := T.glo 49 rfl
theorem Tx.g_law_back (T : Tx w K mg) : mg "_law_back" = some (.ref (He.ga K "_law_back")) := T.glo 50 rfl
theorem Tx.g_law_shape (T : Tx w K mg) : mg "_law_shape" = some (.ref (He.ga K "_law_shape")) := T.glo 51 rfl
theorem Tx.g_law_plain (T : Tx w K mg) : mg "_law_plain" = some (.ref (He.ga K "_law_plain")) := T.glo 52 rfl
theorem Tx.g_law_whole (T : Tx w K mg) : mg "_law_whole" = some (.ref (He.ga K "_law_whole")) := T.glo 53 rfl
theorem Tx.g_law_same (T : Tx w K mg) : mg "_law_same" = some (.ref (He.ga K "_law_same")) := T.glo 54 rfl
theorem Tx.g_law_seen_right (T : Tx w K mg) : mg "_law_seen_right" = some (.ref (He.ga K "_law_seen_right")) := T.glo 55 rfl
theorem Tx.g_law_table (T : Tx w K mg) : mg "_law_table" = some (.ref (He.ga K "_law_table")) := T.glo 56 rfl
theorem Tx.g_law_link (T : Tx w K mg) : mg "_law_link" = some (.ref (He.ga K "_law_link")) := T.glo 57 rfl
theorem Tx.g_law_at (T : Tx w K mg) : mg "_law_at" = some (.ref (He.ga K "_law_at")) := T.glo 58 rfl
theorem Tx.g_law_numbers (T : Tx w K mg) : mg "_law_numbers" = some (.ref (He.ga K "_law_numbers")) := T.glo 59 rfl
theorem Tx.g_law (T : Tx w K mg) : mg "law" = some (.ref (He.ga K "law")) := T.glo 60 rfl
theorem Tx.g_cells_of_source (T : Tx w K mg) : mg "cells_of_source" = some (.ref (He.ga K "cells_of_source")) := T.glo 61 rfl
theorem Tx.g_cells_of_framed (T : Tx w K mg) : mg "cells_of_framed" = some (.ref (He.ga K "cells_of_framed")) := T.glo 62 rfl
theorem Tx.g_cells_of_place (T : Tx w K mg) : mg "cells_of_place" = some (.ref (He.ga K "cells_of_place")) := T.glo 63 rfl
theorem Tx.g_cells_of_own (T : Tx w K mg) : mg "cells_of_own" = some (.ref (He.ga K "cells_of_own")) := T.glo 64 rfl
theorem Tx.g_Picture (T : Tx w K mg) : mg "Picture" = some (.ref (He.ga K "Picture")) := T.glo 65 rfl
theorem Tx.g_Net (T : Tx w K mg) : mg "Net" = some (.ref (He.ga K "Net")) := T.glo 66 rfl
theorem Tx.g_BORDERS (T : Tx w K mg) : mg "BORDERS" = some (.ref (He.ga K "BORDERS")) := T.glo 67 rfl
theorem Tx.g_TABLES (T : Tx w K mg) : mg "TABLES" = some (.ref (He.ga K "TABLES")) := T.glo 68 rfl
theorem Tx.g_GEOMETRY (T : Tx w K mg) : mg "GEOMETRY" = some (.ref (He.ga K "GEOMETRY")) := T.glo 69 rfl
theorem Tx.g_KINDS_OF_PLACE (T : Tx w K mg) : mg "KINDS_OF_PLACE" = some (.ref (He.ga K "KINDS_OF_PLACE")) := T.glo 70 rfl
theorem Tx.g_PLACES_OF_BY (T : Tx w K mg) : mg "PLACES_OF_BY" = some (.ref (He.ga K "PLACES_OF_BY")) := T.glo 71 rfl
theorem Tx.g_COLOURS (T : Tx w K mg) : mg "COLOURS" = some (.ref (He.ga K "COLOURS")) := T.glo 72 rfl
theorem Tx.g_FILTERS (T : Tx w K mg) : mg "FILTERS" = some (.ref (He.ga K "FILTERS")) := T.glo 73 rfl
theorem Tx.g_MEANS (T : Tx w K mg) : mg "MEANS" = some (.ref (He.ga K "MEANS")) := T.glo 74 rfl
theorem Tx.g_SUMS (T : Tx w K mg) : mg "SUMS" = some (.ref (He.ga K "SUMS")) := T.glo 75 rfl
theorem Tx.f_isinstance (T : Tx w K mg) : mg "isinstance" = none := T.free 76 rfl
theorem Tx.f_int (T : Tx w K mg) : mg "int" = none := T.free 77 rfl
theorem Tx.f_bool (T : Tx w K mg) : mg "bool" = none := T.free 78 rfl
theorem Tx.f_str (T : Tx w K mg) : mg "str" = none := T.free 79 rfl
theorem Tx.f_len (T : Tx w K mg) : mg "len" = none := T.free 80 rfl
theorem Tx.f_all (T : Tx w K mg) : mg "all" = none := T.free 81 rfl
theorem Tx.f_tuple (T : Tx w K mg) : mg "tuple" = none := T.free 82 rfl
theorem Tx.f_list (T : Tx w K mg) : mg "list" = none := T.free 83 rfl
theorem Tx.f_range (T : Tx w K mg) : mg "range" = none := T.free 84 rfl
theorem Tx.f_max (T : Tx w K mg) : mg "max" = none := T.free 85 rfl
theorem Tx.f_min (T : Tx w K mg) : mg "min" = none := T.free 86 rfl
theorem Tx.f_dict (T : Tx w K mg) : mg "dict" = none := T.free 87 rfl
theorem Tx.f_zip (T : Tx w K mg) : mg "zip" = none := T.free 88 rfl
theorem Tx.i_LONGEST_NAME (T : Tx w K mg) : ∃ u, mg "LONGEST_NAME" = some u ∧ RelV (.int 8) u := T.int 89 rfl
theorem Tx.i_FARTHEST (T : Tx w K mg) : ∃ u, mg "FARTHEST" = some u ∧ RelV (.int 1000) u := T.int 90 rfl
theorem Tx.i_WIDEST (T : Tx w K mg) : ∃ u, mg "WIDEST" = some u ∧ RelV (.int 48) u := T.int 91 rfl
theorem Tx.i_DEPTH (T : Tx w K mg) : ∃ u, mg "DEPTH" = some u ∧ RelV (.int 255) u := T.int 92 rfl
theorem Tx.i_MOST_PLANES (T : Tx w K mg) : ∃ u, mg "MOST_PLANES" = some u ∧ RelV (.int 4) u := T.int 93 rfl
theorem Tx.i_DEEPEST (T : Tx w K mg) : ∃ u, mg "DEEPEST" = some u ∧ RelV (.int 65535) u := T.int 94 rfl
theorem Tx.i_FARTHEST_MOVE (T : Tx w K mg) : ∃ u, mg "FARTHEST_MOVE" = some u ∧ RelV (.int 500) u := T.int 95 rfl
theorem Tx.i_MOST_STAGES (T : Tx w K mg) : ∃ u, mg "MOST_STAGES" = some u ∧ RelV (.int 24) u := T.int 96 rfl
theorem Tx.t_LETTERS (T : Tx w K mg) : ∃ u, mg "LETTERS" = some u ∧ RelV (.str "abcdefghijklmnopqrstuvwxyz") u := T.str 97 rfl
theorem Tx.t_NEAR (T : Tx w K mg) : ∃ u, mg "NEAR" = some u ∧ RelV (.str "near") u := T.str 98 rfl
theorem Tx.t_WRAPPED (T : Tx w K mg) : ∃ u, mg "WRAPPED" = some u ∧ RelV (.str "wrapped") u := T.str 99 rfl
theorem Tx.t_MIRRORED (T : Tx w K mg) : ∃ u, mg "MIRRORED" = some u ∧ RelV (.str "mirrored") u := T.str 100 rfl
theorem Tx.c_Picture (T : Tx w K mg) : Cls K (He.ga K "Picture") := He.cls_ok (T.fact 101 rfl)
theorem Tx.m_Picture (T : Tx w K mg) : Mk K (He.ga K "Picture") (He.ma K (He.ga K "Picture") "__init__") := He.mkr_ok (T.fact 102 rfl)
theorem Tx.n_Picture_planes (T : Tx w K mg) : NoAttr K (He.ga K "Picture") "planes" := He.noat_ok (T.fact 103 rfl)
theorem Tx.n_Picture_left (T : Tx w K mg) : NoAttr K (He.ga K "Picture") "left" := He.noat_ok (T.fact 104 rfl)
theorem Tx.n_Picture_up (T : Tx w K mg) : NoAttr K (He.ga K "Picture") "up" := He.noat_ok (T.fact 105 rfl)
theorem Tx.n_Picture_depth (T : Tx w K mg) : NoAttr K (He.ga K "Picture") "depth" := He.noat_ok (T.fact 106 rfl)
theorem Tx.me_Picture_window (T : Tx w K mg) : Meth K (He.ga K "Picture") "window" (He.ma K (He.ga K "Picture") "window") := He.meth_ok (T.fact 107 rfl)
theorem Tx.c_Net (T : Tx w K mg) : Cls K (He.ga K "Net") := He.cls_ok (T.fact 108 rfl)
theorem Tx.m_Net (T : Tx w K mg) : Mk K (He.ga K "Net") (He.ma K (He.ga K "Net") "__init__") := He.mkr_ok (T.fact 109 rfl)
theorem Tx.n_Net_stages (T : Tx w K mg) : NoAttr K (He.ga K "Net") "stages" := He.noat_ok (T.fact 110 rfl)
theorem Tx.n_Net_shapes (T : Tx w K mg) : NoAttr K (He.ga K "Net") "shapes" := He.noat_ok (T.fact 111 rfl)
theorem Tx.me_Net_put (T : Tx w K mg) : Meth K (He.ga K "Net") "put" (He.ma K (He.ga K "Net") "put") := He.meth_ok (T.fact 112 rfl)
theorem Tx.me_Net_shape (T : Tx w K mg) : Meth K (He.ga K "Net") "shape" (He.ma K (He.ga K "Net") "shape") := He.meth_ok (T.fact 113 rfl)
theorem Tx.me_Net_whole (T : Tx w K mg) : Meth K (He.ga K "Net") "whole" (He.ma K (He.ga K "Net") "whole") := He.meth_ok (T.fact 114 rfl)
theorem Tx.F_is_whole (T : Tx w K mg) : ∃ fd, FunD K "is_whole" "is_whole" (defArgs s_is_whole) (defBody s_is_whole) (defScope s_is_whole) [] [] (He.ga K "is_whole") fd ∧ Binds K fd ["thing"] [] := by
  obtain ⟨fd, F⟩ := T.def_ 0 (d := dd_is_whole) rfl
  exact ⟨fd, F, FunD.bindsN F fun _ _ _ _ _ _ us hl => match us, hl with | [_], _ => by kernel_rfl⟩
theorem Tx.F_is_from (T : Tx w K mg) : ∃ fd, FunD K "is_from" "is_from" (defArgs s_is_from) (defBody s_is_from) (defScope s_is_from) [] [] (He.ga K "is_from") fd ∧ Binds K fd ["thing", "least", "most"] [] := by
  obtain ⟨fd, F⟩ := T.def_ 1 (d := dd_is_from) rfl
  exact ⟨fd, F, FunD.bindsN F fun _ _ _ _ _ _ us hl => match us, hl with | [_, _, _], _ => by kernel_rfl⟩
theorem Tx.F_is_name (T : Tx w K mg) : ∃ fd, FunD K "is_name" "is_name" (defArgs s_is_name) (defBody s_is_name) (defScope s_is_name) [] [] (He.ga K "is_name") fd ∧ Binds K fd ["thing"] [] := by
  obtain ⟨fd, F⟩ := T.def_ 2 (d := dd_is_name) rfl
  exact ⟨fd, F, FunD.bindsN F fun _ _ _ _ _ _ us hl => match us, hl with | [_], _ => by kernel_rfl⟩
theorem Tx.F_are_wholes (T : Tx w K mg) : ∃ fd, FunD K "are_wholes" "are_wholes" (defArgs s_are_wholes) (defBody s_are_wholes) (defScope s_are_wholes) [] [] (He.ga K "are_wholes") fd ∧ Binds K fd ["thing", "least", "most"] [] := by
  obtain ⟨fd, F⟩ := T.def_ 3 (d := dd_are_wholes) rfl
  exact ⟨fd, F, FunD.bindsN F fun _ _ _ _ _ _ us hl => match us, hl with | [_, _, _], _ => by kernel_rfl⟩
theorem Tx.F_are_rows (T : Tx w K mg) : ∃ fd, FunD K "are_rows" "are_rows" (defArgs s_are_rows) (defBody s_are_rows) (defScope s_are_rows) [] [] (He.ga K "are_rows") fd ∧ Binds K fd ["thing", "most_rows", "most_columns"] [] := by
  obtain ⟨fd, F⟩ := T.def_ 4 (d := dd_are_rows) rfl
  exact ⟨fd, F, FunD.bindsN F fun _ _ _ _ _ _ us hl => match us, hl with | [_, _, _], _ => by kernel_rfl⟩
theorem Tx.F_is_window (T : Tx w K mg) : ∃ fd, FunD K "is_window" "is_window" (defArgs s_is_window) (defBody s_is_window) (defScope s_is_window) [] [] (He.ga K "is_window") fd ∧ Binds K fd ["thing"] [] := by
  obtain ⟨fd, F⟩ := T.def_ 5 (d := dd_is_window) rfl
  exact ⟨fd, F, FunD.bindsN F fun _ _ _ _ _ _ us hl => match us, hl with | [_], _ => by kernel_rfl⟩
theorem Tx.F_lies_in (T : Tx w K mg) : ∃ fd, FunD K "lies_in" "lies_in" (defArgs s_lies_in) (defBody s_lies_in) (defScope s_lies_in) [] [] (He.ga K "lies_in") fd ∧ Binds K fd ["window", "x", "y"] [] := by
  obtain ⟨fd, F⟩ := T.def_ 6 (d := dd_lies_in) rfl
  exact ⟨fd, F, FunD.bindsN F fun _ _ _ _ _ _ us hl => match us, hl with | [_, _, _], _ => by kernel_rfl⟩
theorem Tx.F_are_planes (T : Tx w K mg) : ∃ fd, FunD K "are_planes" "are_planes" (defArgs s_are_planes) (defBody s_are_planes) (defScope s_are_planes) [] [] (He.ga K "are_planes") fd ∧ Binds K fd ["thing", "depth"] [] := by
  obtain ⟨fd, F⟩ := T.def_ 7 (d := dd_are_planes) rfl
  exact ⟨fd, F, FunD.bindsN F fun _ _ _ _ _ _ us hl => match us, hl with | [_, _], _ => by kernel_rfl⟩
theorem Tx.F_Picture_window (T : Tx w K mg) : ∃ fd, FunD K "window" "Picture.window" (defArgs s_Picture_window) (defBody s_Picture_window) (defScope s_Picture_window) [] [] (He.ma K (He.ga K "Picture") "window") fd ∧ Binds K fd ["self"] [] := by
  obtain ⟨fd, F⟩ := T.def_ 9 (d := dd_Picture_window) rfl
  exact ⟨fd, F, FunD.bindsN F fun _ _ _ _ _ _ us hl => match us, hl with | [_], _ => by kernel_rfl⟩
theorem Tx.F_is_border (T : Tx w K mg) : ∃ fd, FunD K "is_border" "is_border" (defArgs s_is_border) (defBody s_is_border) (defScope s_is_border) [] [] (He.ga K "is_border") fd ∧ Binds K fd ["thing"] [] := by
  obtain ⟨fd, F⟩ := T.def_ 10 (d := dd_is_border) rfl
  exact ⟨fd, F, FunD.bindsN F fun _ _ _ _ _ _ us hl => match us, hl with | [_], _ => by kernel_rfl⟩
theorem Tx.F_folded_one (T : Tx w K mg) : ∃ fd, FunD K "folded_one" "folded_one" (defArgs s_folded_one) (defBody s_folded_one) (defScope s_folded_one) [] [] (He.ga K "folded_one") fd ∧ Binds K fd ["border", "first", "many", "place"] [] := by
  obtain ⟨fd, F⟩ := T.def_ 11 (d := dd_folded_one) rfl
  exact ⟨fd, F, FunD.bindsN F fun _ _ _ _ _ _ us hl => match us, hl with | [_, _, _, _], _ => by kernel_rfl⟩
theorem Tx.F_folded (T : Tx w K mg) : ∃ fd, FunD K "folded" "folded" (defArgs s_folded) (defBody s_folded) (defScope s_folded) [] [] (He.ga K "folded") fd ∧ Binds K fd ["border", "window", "x", "y"] [] := by
  obtain ⟨fd, F⟩ := T.def_ 12 (d := dd_folded) rfl
  exact ⟨fd, F, FunD.bindsN F fun _ _ _ _ _ _ us hl => match us, hl with | [_, _, _, _], _ => by kernel_rfl⟩
theorem Tx.F_must_fit_border (T : Tx w K mg) : ∃ fd, FunD K "must_fit_border" "must_fit_border" (defArgs s_must_fit_border) (defBody s_must_fit_border) (defScope s_must_fit_border) [] [] (He.ga K "must_fit_border") fd ∧ Binds K fd ["border", "depth"] [] := by
  obtain ⟨fd, F⟩ := T.def_ 13 (d := dd_must_fit_border) rfl
  exact ⟨fd, F, FunD.bindsN F fun _ _ _ _ _ _ us hl => match us, hl with | [_, _], _ => by kernel_rfl⟩
theorem Tx.F_is_source (T : Tx w K mg) : ∃ fd, FunD K "is_source" "is_source" (defArgs s_is_source) (defBody s_is_source) (defScope s_is_source) [] [] (He.ga K "is_source") fd ∧ Binds K fd ["stage"] [] := by
  obtain ⟨fd, F⟩ := T.def_ 14 (d := dd_is_source) rfl
  exact ⟨fd, F, FunD.bindsN F fun _ _ _ _ _ _ us hl => match us, hl with | [_], _ => by kernel_rfl⟩
theorem Tx.F_shape_of_source (T : Tx w K mg) : ∃ fd, FunD K "shape_of_source" "shape_of_source" (defArgs s_shape_of_source) (defBody s_shape_of_source) (defScope s_shape_of_source) [] [] (He.ga K "shape_of_source") fd ∧ Binds K fd ["stage", "shapes"] [] := by
  obtain ⟨fd, F⟩ := T.def_ 15 (d := dd_shape_of_source) rfl
  exact ⟨fd, F, FunD.bindsN F fun _ _ _ _ _ _ us hl => match us, hl with | [_, _], _ => by kernel_rfl⟩
theorem Tx.F_tell_source (T : Tx w K mg) : ∃ fd, FunD K "tell_source" "tell_source" (defArgs s_tell_source) (defBody s_tell_source) (defScope s_tell_source) [] [] (He.ga K "tell_source") fd ∧ Binds K fd ["stage", "shapes", "look", "x", "y", "plane"] [] := by
  obtain ⟨fd, F⟩ := T.def_ 16 (d := dd_tell_source) rfl
  exact ⟨fd, F, FunD.bindsN F fun _ _ _ _ _ _ us hl => match us, hl with | [_, _, _, _, _, _], _ => by kernel_rfl⟩
theorem Tx.F_is_framed (T : Tx w K mg) : ∃ fd, FunD K "is_framed" "is_framed" (defArgs s_is_framed) (defBody s_is_framed) (defScope s_is_framed) [] [] (He.ga K "is_framed") fd ∧ Binds K fd ["stage"] [] := by
  obtain ⟨fd, F⟩ := T.def_ 17 (d := dd_is_framed) rfl
  exact ⟨fd, F, FunD.bindsN F fun _ _ _ _ _ _ us hl => match us, hl with | [_], _ => by kernel_rfl⟩
theorem Tx.F_shape_of_framed (T : Tx w K mg) : ∃ fd, FunD K "shape_of_framed" "shape_of_framed" (defArgs s_shape_of_framed) (defBody s_shape_of_framed) (defScope s_shape_of_framed) [] [] (He.ga K "shape_of_framed") fd ∧ Binds K fd ["stage", "shapes"] [] := by
  obtain ⟨fd, F⟩ := T.def_ 18 (d := dd_shape_of_framed) rfl
  exact ⟨fd, F, FunD.bindsN F fun _ _ _ _ _ _ us hl => match us, hl with | [_, _], _ => by kernel_rfl⟩
theorem Tx.F_tell_framed (T : Tx w K mg) : ∃ fd, FunD K "tell_framed" "tell_framed" (defArgs s_tell_framed) (defBody s_tell_framed) (defScope s_tell_framed) [] [] (He.ga K "tell_framed") fd ∧ Binds K fd ["stage", "shapes", "look", "x", "y", "plane"] [] := by
  obtain ⟨fd, F⟩ := T.def_ 19 (d := dd_tell_framed) rfl
  exact ⟨fd, F, FunD.bindsN F fun _ _ _ _ _ _ us hl => match us, hl with | [_, _, _, _, _, _], _ => by kernel_rfl⟩
theorem Tx.F_same_shape (T : Tx w K mg) : ∃ fd, FunD K "same_shape" "same_shape" (defArgs s_same_shape) (defBody s_same_shape) (defScope s_same_shape) [] [] (He.ga K "same_shape") fd ∧ Binds K fd ["stage", "shapes"] [] := by
  obtain ⟨fd, F⟩ := T.def_ 20 (d := dd_same_shape) rfl
  exact ⟨fd, F, FunD.bindsN F fun _ _ _ _ _ _ us hl => match us, hl with | [_, _], _ => by kernel_rfl⟩
theorem Tx.F_tell_cell (T : Tx w K mg) : ∃ fd, FunD K "tell_cell" "tell_cell" (defArgs s_tell_cell) (defBody s_tell_cell) (defScope s_tell_cell) [] [] (He.ga K "tell_cell") fd ∧ Binds K fd ["stage", "shapes", "look", "x", "y", "plane"] [] := by
  obtain ⟨fd, F⟩ := T.def_ 21 (d := dd_tell_cell) rfl
  exact ⟨fd, F, FunD.bindsN F fun _ _ _ _ _ _ us hl => match us, hl with | [_, _, _, _, _, _], _ => by kernel_rfl⟩
theorem Tx.F_is_moved (T : Tx w K mg) : ∃ fd, FunD K "is_moved" "is_moved" (defArgs s_is_moved) (defBody s_is_moved) (defScope s_is_moved) [] [] (He.ga K "is_moved") fd ∧ Binds K fd ["stage"] [] := by
  obtain ⟨fd, F⟩ := T.def_ 22 (d := dd_is_moved) rfl
  exact ⟨fd, F, FunD.bindsN F fun _ _ _ _ _ _ us hl => match us, hl with | [_], _ => by kernel_rfl⟩
theorem Tx.F_place_of_moved (T : Tx w K mg) : ∃ fd, FunD K "place_of_moved" "place_of_moved" (defArgs s_place_of_moved) (defBody s_place_of_moved) (defScope s_place_of_moved) [] [] (He.ga K "place_of_moved") fd ∧ Binds K fd ["stage", "x", "y"] [] := by
  obtain ⟨fd, F⟩ := T.def_ 23 (d := dd_place_of_moved) rfl
  exact ⟨fd, F, FunD.bindsN F fun _ _ _ _ _ _ us hl => match us, hl with | [_, _, _], _ => by kernel_rfl⟩
theorem Tx.F_is_flipped (T : Tx w K mg) : ∃ fd, FunD K "is_flipped" "is_flipped" (defArgs s_is_flipped) (defBody s_is_flipped) (defScope s_is_flipped) [] [] (He.ga K "is_flipped") fd ∧ Binds K fd ["stage"] [] := by
  obtain ⟨fd, F⟩ := T.def_ 24 (d := dd_is_flipped) rfl
  exact ⟨fd, F, FunD.bindsN F fun _ _ _ _ _ _ us hl => match us, hl with | [_], _ => by kernel_rfl⟩
theorem Tx.F_place_of_flipped (T : Tx w K mg) : ∃ fd, FunD K "place_of_flipped" "place_of_flipped" (defArgs s_place_of_flipped) (defBody s_place_of_flipped) (defScope s_place_of_flipped) [] [] (He.ga K "place_of_flipped") fd ∧ Binds K fd ["stage", "x", "y"] [] := by
  obtain ⟨fd, F⟩ := T.def_ 25 (d := dd_place_of_flipped) rfl
  exact ⟨fd, F, FunD.bindsN F fun _ _ _ _ _ _ us hl => match us, hl with | [_, _, _], _ => by kernel_rfl⟩
theorem Tx.F_is_turned (T : Tx w K mg) : ∃ fd, FunD K "is_turned" "is_turned" (defArgs s_is_turned) (defBody s_is_turned) (defScope s_is_turned) [] [] (He.ga K "is_turned") fd ∧ Binds K fd ["stage"] [] := by
  obtain ⟨fd, F⟩ := T.def_ 26 (d := dd_is_turned) rfl
  exact ⟨fd, F, FunD.bindsN F fun _ _ _ _ _ _ us hl => match us, hl with | [_], _ => by kernel_rfl⟩
theorem Tx.F_place_of_turned (T : Tx w K mg) : ∃ fd, FunD K "place_of_turned" "place_of_turned" (defArgs s_place_of_turned) (defBody s_place_of_turned) (defScope s_place_of_turned) [] [] (He.ga K "place_of_turned") fd ∧ Binds K fd ["stage", "x", "y"] [] := by
  obtain ⟨fd, F⟩ := T.def_ 27 (d := dd_place_of_turned) rfl
  exact ⟨fd, F, FunD.bindsN F fun _ _ _ _ _ _ us hl => match us, hl with | [_, _, _], _ => by kernel_rfl⟩
theorem Tx.F_is_curved (T : Tx w K mg) : ∃ fd, FunD K "is_curved" "is_curved" (defArgs s_is_curved) (defBody s_is_curved) (defScope s_is_curved) [] [] (He.ga K "is_curved") fd ∧ Binds K fd ["stage"] [] := by
  obtain ⟨fd, F⟩ := T.def_ 28 (d := dd_is_curved) rfl
  exact ⟨fd, F, FunD.bindsN F fun _ _ _ _ _ _ us hl => match us, hl with | [_], _ => by kernel_rfl⟩
theorem Tx.F_shape_of_curved (T : Tx w K mg) : ∃ fd, FunD K "shape_of_curved" "shape_of_curved" (defArgs s_shape_of_curved) (defBody s_shape_of_curved) (defScope s_shape_of_curved) [] [] (He.ga K "shape_of_curved") fd ∧ Binds K fd ["stage", "shapes"] [] := by
  obtain ⟨fd, F⟩ := T.def_ 29 (d := dd_shape_of_curved) rfl
  exact ⟨fd, F, FunD.bindsN F fun _ _ _ _ _ _ us hl => match us, hl with | [_, _], _ => by kernel_rfl⟩
theorem Tx.F_tell_curved (T : Tx w K mg) : ∃ fd, FunD K "tell_curved" "tell_curved" (defArgs s_tell_curved) (defBody s_tell_curved) (defScope s_tell_curved) [] [] (He.ga K "tell_curved") fd ∧ Binds K fd ["stage", "shapes", "look", "x", "y", "plane"] [] := by
  obtain ⟨fd, F⟩ := T.def_ 30 (d := dd_tell_curved) rfl
  exact ⟨fd, F, FunD.bindsN F fun _ _ _ _ _ _ us hl => match us, hl with | [_, _, _, _, _, _], _ => by kernel_rfl⟩
theorem Tx.F_row_of (T : Tx w K mg) : ∃ fd, FunD K "row_of" "row_of" (defArgs s_row_of) (defBody s_row_of) (defScope s_row_of) [] [] (He.ga K "row_of") fd ∧ Binds K fd ["kind"] [] := by
  obtain ⟨fd, F⟩ := T.def_ 31 (d := dd_row_of) rfl
  exact ⟨fd, F, FunD.bindsN F fun _ _ _ _ _ _ us hl => match us, hl with | [_], _ => by kernel_rfl⟩
theorem Tx.F_is_stage (T : Tx w K mg) : ∃ fd, FunD K "is_stage" "is_stage" (defArgs s_is_stage) (defBody s_is_stage) (defScope s_is_stage) [] [] (He.ga K "is_stage") fd ∧ Binds K fd ["thing"] [] := by
  obtain ⟨fd, F⟩ := T.def_ 32 (d := dd_is_stage) rfl
  exact ⟨fd, F, FunD.bindsN F fun _ _ _ _ _ _ us hl => match us, hl with | [_], _ => by kernel_rfl⟩
theorem Tx.F_has_no_divisor (T : Tx w K mg) : ∃ fd, FunD K "has_no_divisor" "has_no_divisor" (defArgs s_has_no_divisor) (defBody s_has_no_divisor) (defScope s_has_no_divisor) [] [] (He.ga K "has_no_divisor") fd ∧ Binds K fd ["stage"] [] := by
  obtain ⟨fd, F⟩ := T.def_ 33 (d := dd_has_no_divisor) rfl
  exact ⟨fd, F, FunD.bindsN F fun _ _ _ _ _ _ us hl => match us, hl with | [_], _ => by kernel_rfl⟩
theorem Tx.F_made_of (T : Tx w K mg) : ∃ fd, FunD K "made_of" "made_of" (defArgs s_made_of) (defBody s_made_of) (defScope s_made_of) [] [] (He.ga K "made_of") fd ∧ Binds K fd ["stage"] [] := by
  obtain ⟨fd, F⟩ := T.def_ 34 (d := dd_made_of) rfl
  exact ⟨fd, F, FunD.bindsN F fun _ _ _ _ _ _ us hl => match us, hl with | [_], _ => by kernel_rfl⟩
theorem Tx.F_shape_by (T : Tx w K mg) : ∃ fd, FunD K "shape_by" "shape_by" (defArgs s_shape_by) (defBody s_shape_by) (defScope s_shape_by) [] [] (He.ga K "shape_by") fd ∧ Binds K fd ["stage", "shapes"] [] := by
  obtain ⟨fd, F⟩ := T.def_ 35 (d := dd_shape_by) rfl
  exact ⟨fd, F, FunD.bindsN F fun _ _ _ _ _ _ us hl => match us, hl with | [_, _], _ => by kernel_rfl⟩
theorem Tx.F_told_by (T : Tx w K mg) : ∃ fd, FunD K "told_by" "told_by" (defArgs s_told_by) (defBody s_told_by) (defScope s_told_by) [] [] (He.ga K "told_by") fd ∧ Binds K fd ["stage", "shapes", "look", "x", "y", "plane"] [] := by
  obtain ⟨fd, F⟩ := T.def_ 36 (d := dd_told_by) rfl
  exact ⟨fd, F, FunD.bindsN F fun _ _ _ _ _ _ us hl => match us, hl with | [_, _, _, _, _, _], _ => by kernel_rfl⟩
theorem Tx.F_first_missing (T : Tx w K mg) : ∃ fd, FunD K "first_missing" "first_missing" (defArgs s_first_missing) (defBody s_first_missing) (defScope s_first_missing) [] [] (He.ga K "first_missing") fd ∧ Binds K fd ["stage", "there"] [] := by
  obtain ⟨fd, F⟩ := T.def_ 37 (d := dd_first_missing) rfl
  exact ⟨fd, F, FunD.bindsN F fun _ _ _ _ _ _ us hl => match us, hl with | [_, _], _ => by kernel_rfl⟩
theorem Tx.F_in_order (T : Tx w K mg) : ∃ fd, FunD K "in_order" "in_order" (defArgs s_in_order) (defBody s_in_order) (defScope s_in_order) [] [] (He.ga K "in_order") fd ∧ Binds K fd ["stages"] [] := by
  obtain ⟨fd, F⟩ := T.def_ 38 (d := dd_in_order) rfl
  exact ⟨fd, F, FunD.bindsN F fun _ _ _ _ _ _ us hl => match us, hl with | [_], _ => by kernel_rfl⟩
theorem Tx.F_shapes_of (T : Tx w K mg) : ∃ fd, FunD K "shapes_of" "shapes_of" (defArgs s_shapes_of) (defBody s_shapes_of) (defScope s_shapes_of) [] [] (He.ga K "shapes_of") fd ∧ Binds K fd ["stages"] [] := by
  obtain ⟨fd, F⟩ := T.def_ 39 (d := dd_shapes_of) rfl
  exact ⟨fd, F, FunD.bindsN F fun _ _ _ _ _ _ us hl => match us, hl with | [_], _ => by kernel_rfl⟩
theorem Tx.F_numbers_at (T : Tx w K mg) : ∃ fd, FunD K "numbers_at" "numbers_at" (defArgs s_numbers_at) (defBody s_numbers_at) (defScope s_numbers_at) [] [] (He.ga K "numbers_at") fd ∧ Binds K fd ["stages", "shapes", "memo", "name", "x", "y", "plane"] [] := by
  obtain ⟨fd, F⟩ := T.def_ 40 (d := dd_numbers_at) rfl
  exact ⟨fd, F, FunD.bindsN F fun _ _ _ _ _ _ us hl => match us, hl with | [_, _, _, _, _, _, _], _ => by kernel_rfl⟩
theorem Tx.F_planes_by (T : Tx w K mg) : ∃ fd, FunD K "planes_by" "planes_by" (defArgs s_planes_by) (defBody s_planes_by) (defScope s_planes_by) [] [] (He.ga K "planes_by") fd ∧ Binds K fd ["window", "many", "tell"] [] := by
  obtain ⟨fd, F⟩ := T.def_ 41 (d := dd_planes_by) rfl
  exact ⟨fd, F, FunD.bindsN F fun _ _ _ _ _ _ us hl => match us, hl with | [_, _, _], _ => by kernel_rfl⟩
theorem Tx.F_must_be_there (T : Tx w K mg) : ∃ fd, FunD K "must_be_there" "must_be_there" (defArgs s_must_be_there) (defBody s_must_be_there) (defScope s_must_be_there) [] [] (He.ga K "must_be_there") fd ∧ Binds K fd ["stages", "name"] [] := by
  obtain ⟨fd, F⟩ := T.def_ 42 (d := dd_must_be_there) rfl
  exact ⟨fd, F, FunD.bindsN F fun _ _ _ _ _ _ us hl => match us, hl with | [_, _], _ => by kernel_rfl⟩
theorem Tx.F_must_be_window (T : Tx w K mg) : ∃ fd, FunD K "must_be_window" "must_be_window" (defArgs s_must_be_window) (defBody s_must_be_window) (defScope s_must_be_window) [] [] (He.ga K "must_be_window") fd ∧ Binds K fd ["window"] [] := by
  obtain ⟨fd, F⟩ := T.def_ 43 (d := dd_must_be_window) rfl
  exact ⟨fd, F, FunD.bindsN F fun _ _ _ _ _ _ us hl => match us, hl with | [_], _ => by kernel_rfl⟩
theorem Tx.F_Net_init (T : Tx w K mg) : ∃ fd, FunD K "__init__" "Net.__init__" (defArgs s_Net_init) (defBody s_Net_init) (defScope s_Net_init) [] [] (He.ma K (He.ga K "Net") "__init__") fd ∧ Binds K fd ["self"] [] := by
  obtain ⟨fd, F⟩ := T.def_ 44 (d := dd_Net_init) rfl
  exact ⟨fd, F, FunD.bindsN F fun _ _ _ _ _ _ us hl => match us, hl with | [_], _ => by kernel_rfl⟩
theorem Tx.F_Net_put (T : Tx w K mg) : ∃ fd, FunD K "put" "Net.put" (defArgs s_Net_put) (defBody s_Net_put) (defScope s_Net_put) [] [] (He.ma K (He.ga K "Net") "put") fd ∧ Binds K fd ["self", "name", "stage"] [] := by
  obtain ⟨fd, F⟩ := T.def_ 45 (d := dd_Net_put) rfl
  exact ⟨fd, F, FunD.bindsN F fun _ _ _ _ _ _ us hl => match us, hl with | [_, _, _], _ => by kernel_rfl⟩
theorem Tx.F_Net_shape (T : Tx w K mg) : ∃ fd, FunD K "shape" "Net.shape" (defArgs s_Net_shape) (defBody s_Net_shape) (defScope s_Net_shape) [] [] (He.ma K (He.ga K "Net") "shape") fd ∧ Binds K fd ["self", "name"] [] := by
  obtain ⟨fd, F⟩ := T.def_ 46 (d := dd_Net_shape) rfl
  exact ⟨fd, F, FunD.bindsN F fun _ _ _ _ _ _ us hl => match us, hl with | [_, _], _ => by kernel_rfl⟩
theorem Tx.F_Net_whole (T : Tx w K mg) : ∃ fd, FunD K "whole" "Net.whole" (defArgs s_Net_whole) (defBody s_Net_whole) (defScope s_Net_whole) [] [] (He.ma K (He.ga K "Net") "whole") fd ∧ Binds K fd ["self", "name", "window"] [] := by
  obtain ⟨fd, F⟩ := T.def_ 47 (d := dd_Net_whole) rfl
  exact ⟨fd, F, FunD.bindsN F fun _ _ _ _ _ _ us hl => match us, hl with | [_, _, _], _ => by kernel_rfl⟩
theorem Tx.F_law_pen (T : Tx w K mg) : ∃ fd, FunD K "_law_pen" "_law_pen" (defArgs s_law_pen) (defBody s_law_pen) (defScope s_law_pen) [] [] (He.ga K "_law_pen") fd ∧ Binds K fd ["_law_script"] [] := by
  obtain ⟨fd, F⟩ := T.def_ 48 (d := dd_law_pen) rfl
  exact ⟨fd, F, FunD.bindsN F fun _ _ _ _ _ _ us hl => match us, hl with | [_], _ => by kernel_rfl⟩
theorem Tx.F_law_draw (T : Tx w K mg) : ∃ fd, FunD K "_law_draw" "_law_draw" (defArgs s_law_draw) (defBody s_law_draw) (defScope s_law_draw) [] [] (He.ga K "_law_draw") fd ∧ Binds K fd ["_law_pen_here", "_law_many"] [] := by
  obtain ⟨fd, F⟩ := T.def_ 49 (d := dd_law_draw) rfl
  exact ⟨fd, F, FunD.bindsN F fun _ _ _ _ _ _ us hl => match us, hl with | [_, _], _ => by kernel_rfl⟩
theorem Tx.F_law_names (T : Tx w K mg) : ∃ fd, FunD K "_law_names" "_law_names" (defArgs s_law_names) (defBody s_law_names) (defScope s_law_names) [] [] (He.ga K "_law_names") fd ∧ Binds K fd ["_law_pen_here", "_law_many"] [] := by
  obtain ⟨fd, F⟩ := T.def_ 50 (d := dd_law_names) rfl
  exact ⟨fd, F, FunD.bindsN F fun _ _ _ _ _ _ us hl => match us, hl with | [_, _], _ => by kernel_rfl⟩
theorem Tx.F_law_planes (T : Tx w K mg) : ∃ fd, FunD K "_law_planes" "_law_planes" (defArgs s_law_planes) (defBody s_law_planes) (defScope s_law_planes) [] [] (He.ga K "_law_planes") fd ∧ Binds K fd ["_law_pen_here", "_law_planes_here", "_law_broad", "_law_tall", "_law_deep"] [] := by
  obtain ⟨fd, F⟩ := T.def_ 51 (d := dd_law_planes) rfl
  exact ⟨fd, F, FunD.bindsN F fun _ _ _ _ _ _ us hl => match us, hl with | [_, _, _, _, _], _ => by kernel_rfl⟩
theorem Tx.F_law_picture (T : Tx w K mg) : ∃ fd, FunD K "_law_picture" "_law_picture" (defArgs s_law_picture) (defBody s_law_picture) (defScope s_law_picture) [] [] (He.ga K "_law_picture") fd ∧ Binds K fd ["_law_pen_here", "_law_planes_here", "_law_deep", "_law_limit"] [] := by
  obtain ⟨fd, F⟩ := T.def_ 52 (d := dd_law_picture) rfl
  exact ⟨fd, F, FunD.bindsN F fun _ _ _ _ _ _ us hl => match us, hl with | [_, _, _, _], _ => by kernel_rfl⟩
theorem Tx.F_law_border (T : Tx w K mg) : ∃ fd, FunD K "_law_border" "_law_border" (defArgs s_law_border) (defBody s_law_border) (defScope s_law_border) [] [] (He.ga K "_law_border") fd ∧ Binds K fd ["_law_pen_here", "_law_deep"] [] := by
  obtain ⟨fd, F⟩ := T.def_ 53 (d := dd_law_border) rfl
  exact ⟨fd, F, FunD.bindsN F fun _ _ _ _ _ _ us hl => match us, hl with | [_, _], _ => by kernel_rfl⟩
theorem Tx.F_law_window (T : Tx w K mg) : ∃ fd, FunD K "_law_window" "_law_window" (defArgs s_law_window) (defBody s_law_window) (defScope s_law_window) [] [] (He.ga K "_law_window") fd ∧ Binds K fd ["_law_pen_here", "_law_far", "_law_limit"] [] := by
  obtain ⟨fd, F⟩ := T.def_ 54 (d := dd_law_window) rfl
  exact ⟨fd, F, FunD.bindsN F fun _ _ _ _ _ _ us hl => match us, hl with | [_, _, _], _ => by kernel_rfl⟩
theorem Tx.F_law_one_back (T : Tx w K mg) : ∃ fd, FunD K "_law_one_back" "_law_one_back" (defArgs s_law_one_back) (defBody s_law_one_back) (defScope s_law_one_back) [] [] (He.ga K "_law_one_back") fd ∧ Binds K fd ["_law_edge", "_law_first", "_law_many", "_law_place"] [] := by
  obtain ⟨fd, F⟩ := T.def_ 55 (d := dd_law_one_back) rfl
  exact ⟨fd, F, FunD.bindsN F fun _ _ _ _ _ _ us hl => match us, hl with | [_, _, _, _], _ => by kernel_rfl⟩
theorem Tx.F_law_back (T : Tx w K mg) : ∃ fd, FunD K "_law_back" "_law_back" (defArgs s_law_back) (defBody s_law_back) (defScope s_law_back) [] [] (He.ga K "_law_back") fd ∧ Binds K fd ["_law_edge", "_law_window_here", "_law_x", "_law_y"] [] := by
  obtain ⟨fd, F⟩ := T.def_ 56 (d := dd_law_back) rfl
  exact ⟨fd, F, FunD.bindsN F fun _ _ _ _ _ _ us hl => match us, hl with | [_, _, _, _], _ => by kernel_rfl⟩
theorem Tx.F_law_shape (T : Tx w K mg) : ∃ fd, FunD K "_law_shape" "_law_shape" (defArgs s_law_shape) (defBody s_law_shape) (defScope s_law_shape) [] [] (He.ga K "_law_shape") fd ∧ Binds K fd ["_law_stages", "_law_name"] [] := by
  obtain ⟨fd, F⟩ := T.def_ 57 (d := dd_law_shape) rfl
  exact ⟨fd, F, FunD.bindsN F fun _ _ _ _ _ _ us hl => match us, hl with | [_, _], _ => by kernel_rfl⟩
theorem Tx.F_law_plain (T : Tx w K mg) : ∃ fd, FunD K "_law_plain" "_law_plain" (defArgs s_law_plain) (defBody s_law_plain) (defScope s_law_plain) [] [] (He.ga K "_law_plain") fd ∧ Binds K fd ["_law_stages", "_law_memo", "_law_name", "_law_x", "_law_y", "_law_p"] [] := by
  obtain ⟨fd, F⟩ := T.def_ 58 (d := dd_law_plain) rfl
  exact ⟨fd, F, FunD.bindsN F fun _ _ _ _ _ _ us hl => match us, hl with | [_, _, _, _, _, _], _ => by kernel_rfl⟩
theorem Tx.F_law_whole (T : Tx w K mg) : ∃ fd, FunD K "_law_whole" "_law_whole" (defArgs s_law_whole) (defBody s_law_whole) (defScope s_law_whole) [] [] (He.ga K "_law_whole") fd ∧ Binds K fd ["_law_stages", "_law_name", "_law_window_here"] [] := by
  obtain ⟨fd, F⟩ := T.def_ 59 (d := dd_law_whole) rfl
  exact ⟨fd, F, FunD.bindsN F fun _ _ _ _ _ _ us hl => match us, hl with | [_, _, _], _ => by kernel_rfl⟩
theorem Tx.F_law_same (T : Tx w K mg) : ∃ fd, FunD K "_law_same" "_law_same" (defArgs s_law_same) (defBody s_law_same) (defScope s_law_same) [] [] (He.ga K "_law_same") fd ∧ Binds K fd ["_law_found", "_law_due"] [] := by
  obtain ⟨fd, F⟩ := T.def_ 60 (d := dd_law_same) rfl
  exact ⟨fd, F, FunD.bindsN F fun _ _ _ _ _ _ us hl => match us, hl with | [_, _], _ => by kernel_rfl⟩
theorem Tx.F_law_seen_right (T : Tx w K mg) : ∃ fd, FunD K "_law_seen_right" "_law_seen_right" (defArgs s_law_seen_right) (defBody s_law_seen_right) (defScope s_law_seen_right) [] [] (He.ga K "_law_seen_right") fd ∧ Binds K fd ["_law_net", "_law_stages", "_law_name", "_law_window_here"] [] := by
  obtain ⟨fd, F⟩ := T.def_ 61 (d := dd_law_seen_right) rfl
  exact ⟨fd, F, FunD.bindsN F fun _ _ _ _ _ _ us hl => match us, hl with | [_, _, _, _], _ => by kernel_rfl⟩
theorem Tx.F_law_table (T : Tx w K mg) : ∃ fd, FunD K "_law_table" "_law_table" (defArgs s_law_table) (defBody s_law_table) (defScope s_law_table) [] [] (He.ga K "_law_table") fd ∧ Binds K fd ["_law_pen_here", "_law_deep", "_law_fresh"] [] := by
  obtain ⟨fd, F⟩ := T.def_ 62 (d := dd_law_table) rfl
  exact ⟨fd, F, FunD.bindsN F fun _ _ _ _ _ _ us hl => match us, hl with | [_, _, _], _ => by kernel_rfl⟩
theorem Tx.F_law_link (T : Tx w K mg) : ∃ fd, FunD K "_law_link" "_law_link" (defArgs s_law_link) (defBody s_law_link) (defScope s_law_link) [] [] (He.ga K "_law_link") fd ∧ Binds K fd ["_law_pen_here", "_law_name", "_law_deep"] [] := by
  obtain ⟨fd, F⟩ := T.def_ 63 (d := dd_law_link) rfl
  exact ⟨fd, F, FunD.bindsN F fun _ _ _ _ _ _ us hl => match us, hl with | [_, _, _], _ => by kernel_rfl⟩
theorem Tx.F_law_at (T : Tx w K mg) : ∃ fd, FunD K "_law_at" "_law_at" (defArgs s_law_at) (defBody s_law_at) (defScope s_law_at) [] [] (He.ga K "_law_at") fd ∧ Binds K fd ["_law_stages", "_law_memo", "_law_name", "_law_x", "_law_y", "_law_p"] [] := by
  obtain ⟨fd, F⟩ := T.def_ 64 (d := dd_law_at) rfl
  exact ⟨fd, F, FunD.bindsN F fun _ _ _ _ _ _ us hl => match us, hl with | [_, _, _, _, _, _], _ => by kernel_rfl⟩
theorem Tx.F_law_numbers (T : Tx w K mg) : ∃ fd, FunD K "_law_numbers" "_law_numbers" (defArgs s_law_numbers) (defBody s_law_numbers) (defScope s_law_numbers) [] [] (He.ga K "_law_numbers") fd ∧ Binds K fd ["_law_stages", "_law_name"] [] := by
  obtain ⟨fd, F⟩ := T.def_ 65 (d := dd_law_numbers) rfl
  exact ⟨fd, F, FunD.bindsN F fun _ _ _ _ _ _ us hl => match us, hl with | [_, _], _ => by kernel_rfl⟩
theorem Tx.F_law (T : Tx w K mg) : ∃ fd, FunD K "law" "law" (defArgs s_law) (defBody s_law) (defScope s_law) [] [] (He.ga K "law") fd ∧ Binds K fd ["_law_script"] [] := by
  obtain ⟨fd, F⟩ := T.def_ 66 (d := dd_law) rfl
  exact ⟨fd, F, FunD.bindsN F fun _ _ _ _ _ _ us hl => match us, hl with | [_], _ => by kernel_rfl⟩
end
end K9

set_option maxHeartbeats 0
/-! The top's run: its looks and its facts apart, a check for each answer of the world that it asks. -/
namespace K9
open PySem PySem.W PySem.Calls PyProof.Rows
abbrev R : OpenRow := OpenLaw.row PySem.Challenge.rw_pixelstages_k09_whole_rows_of_geometry
abbrev qv : Program := view R.prog [182]
/-- where stands what the facts speak of -/
def as0 : List Addr := [3, 179, 178, 186, 185, 191, 190, 196, 195, 201, 200, 208, 207, 215, 214, 225, 224, 240, 239, 247]
def as1 : List Addr := [246, 296, 295, 303, 302, 310, 309, 317, 316, 324, 323, 331, 330, 345, 344, 352, 351, 359, 358, 373]
def as2 : List Addr := [372, 380, 379, 387, 386, 392, 391, 399, 398, 406, 405, 413, 412, 420, 419, 427, 426, 442, 441, 449]
def as3 : List Addr := [448, 463, 462, 850, 849, 855, 854, 862, 861, 869, 868, 876, 875, 883, 882, 890, 889, 895, 894, 900]
def as4 : List Addr := [899, 905, 904, 910, 909, 917, 916, 924, 923, 938, 937, 945, 944, 959, 958, 980, 979, 1008, 1007, 1015]
def as5 : List Addr := [1014, 1022, 1021, 1029, 1028, 1036, 1035, 1043, 1042, 1050, 1049, 1057, 1056, 1064, 1063, 1071, 1070, 1078, 1077, 1083]
def as6 : List Addr := [1082, 1088, 1087, 1095, 1094, 1100, 1099, 1107, 1106, 1114, 1113, 1119, 1118, 1124, 1123, 284, 283, 997, 996, 233]
def as7 : List Addr := [464, 465, 466, 467, 468, 469, 470, 428, 842, 843, 289, 901, 903, 974, 976, 977, 978]
def asL : List Addr := as0 ++ as1 ++ as2 ++ as3 ++ as4 ++ as5 ++ as6 ++ as7
def obsY (g : Addr → Option Obj) : He.AlX := (He.obsT fa fn ts (He.frT g asL), ex (He.frT g asL) && He.tabsB g tf (He.frT g asL))
theorem saysY_of {w : World} {h : Heap} (e : obsY h.get? = He.valX fn ts w) : He.SaysX fa fn ts tf ex w h (He.frT h.get? asL) := by
  unfold obsY at e
  generalize hK : He.frT h.get? asL = K at e
  have e1 : He.obsT fa fn ts K = He.valT fn ts w := congrArg Prod.fst e
  have e2 : (ex K && He.tabsB h.get? tf K) = true := congrArg Prod.snd e
  have h1 := (Bool.and_eq_true_iff.mp e2).1
  have h2 := (Bool.and_eq_true_iff.mp e2).2
  have key : ∀ p ∈ tf, PySem.W.codeHdIn K (He.cT K p).1 (He.cT K p).2 = true ∧ ∃ o, h.get? (He.cT K p).2 = some o ∧ He.emptyTab o = true := fun p hp => by
    have h5 := Bool.and_eq_true_iff.mp (List.all_eq_true.mp h2 p hp)
    have h4 := h5.2
    cases q : h.get? (He.cT K p).2 with
    | none =>
      rw [q] at h4
      cases h4
    | some o =>
      rw [q] at h4
      exact ⟨h5.1, o, rfl, h4⟩
  exact ⟨e1, h1, fun p hp => (key p hp).1, fun p hp => by
    obtain ⟨_, o, q, z⟩ := key p hp
    rw [← hK]
    rw [← hK] at q
    exact He.frT_none q z, fun p hp => by
    obtain ⟨_, o, q, z⟩ := key p hp
    rw [q, He.emptyTab_eq z]⟩
/-- the top's facts, read at the addresses of asL alone -/
def hkY : PySem.W.Hook where
  α := He.AlX
  obs := fun s => obsY s.heap.get?
  val := fun w => He.valX fn ts w
  says := fun w h => ∃ K : PySem.W.Frag, K.In h ∧ He.SaysX fa fn ts tf ex w h K
  of := fun _ _ e => ⟨_, He.frT_in, saysY_of e⟩
  keeps := fun _ _ _ ⟨K, hK, c⟩ k => ⟨K, PySem.W.Frag.In.keeps hK k, ⟨c.t, c.more, c.hd, c.out, fun p hp => k _ _ (c.empty p hp)⟩⟩
theorem obY_eq (s : SharedT) : obsY (HandSHeadRun.getT s) = hkY.obs s.abs := by
  have e : HandSHeadRun.getT s = s.abs.heap.get? := funext (HandSHeadRun.getT_eq s)
  rw [e]
  rfl
/-- the top's end -/
noncomputable abbrev endT (w : World) (os : OsState) : Option SharedT := HandSHeadRun.endF (HandSHeadRun.stepQ (HandSHeadRun.denQ HandSHeadRun.tabQ) R.prog w) 8300 R.prog w os
def obT (s : SharedT) : He.AlX := obsY (HandSHeadRun.getT s)
theorem looks_f (w : World) (os : OsState) : (endT (w.withFollow "special-get-raises" false) os).map (fun s => HandSHeadRun.looksF R.prog (boot_heap (w.withFollow "special-get-raises" false).params) s.abs) = some true := by kernel_rfl
theorem looks_t (w : World) (os : OsState) : (endT (w.withFollow "special-get-raises" true) os).map (fun s => HandSHeadRun.looksF R.prog (boot_heap (w.withFollow "special-get-raises" true).params) s.abs) = some true := by kernel_rfl
theorem seen_f (w : World) (os : OsState) : (endT (w.withFollow "special-get-raises" false) os).map (fun s => HandSHeadRun.seenQ qv loose (importedModules R.prog.main.body) (fun s => xlAt qv [] s && recOk R.toRowW.records s) s.abs) = some (openGood qv loose) := by kernel_rfl
theorem seen_t (w : World) (os : OsState) : (endT (w.withFollow "special-get-raises" true) os).map (fun s => HandSHeadRun.seenQ qv loose (importedModules R.prog.main.body) (fun s => xlAt qv [] s && recOk R.toRowW.records s) s.abs) = some (openGood qv loose) := by kernel_rfl
theorem facts_f (w : World) (os : OsState) : (endT (w.withFollow "special-get-raises" false) os).map obT = some (hkY.val (w.withFollow "special-get-raises" false)) := by kernel_rfl
theorem facts_t (w : World) (os : OsState) : (endT (w.withFollow "special-get-raises" true) os).map obT = some (hkY.val (w.withFollow "special-get-raises" true)) := by kernel_rfl
theorem three {α β γ δ : Type} {o : Option α} {f1 : α → β} {f2 : α → γ} {g : α → δ} {x1 : β} {x2 : γ} {y : δ} (h1 : o.map f1 = some x1) (h2 : o.map f2 = some x2) (h3 : o.map g = some y) : o.map (fun s => (f1 s, f2 s, g s)) = some (x1, x2, y) := by
  cases o with
  | none => cases h1
  | some a =>
    have e1 : f1 a = x1 := Option.some.inj h1
    have e2 : f2 a = x2 := Option.some.inj h2
    have e3 : g a = y := Option.some.inj h3
    rw [← e1, ← e2, ← e3]
    rfl
theorem runs (w : World) : HandSHeadRun.RunEq R qv hkY obT 8300 loose w :=
  byRow2 "special-get-raises" (P := fun w => HandSHeadRun.RunEq R qv hkY obT 8300 loose w) (fun w os => three (looks_f w os) (seen_f w os) (facts_f w os)) (fun w os => three (looks_t w os) (seen_t w os) (facts_t w os)) w
end K9

set_option maxHeartbeats 4000000
/-! The mathematics: what pictures, borders, stages one on another tell. No program here. -/
namespace K9
inductive Bd where
  | near | wrapped | mirrored | num (n : Int)
structure Win where
  l : Int
  u : Int
  w : Int
  h : Int
structure Pic where
  planes : List (List (List Int))
  left : Int
  up : Int
  depth : Int
inductive Stg where
  | source (p : Pic) (b : Bd)
  | framed (w : Win) (b : Bd)
  | moved (r d : Int)
  | flipped (a : Bool)
  | turned
  | curved (t : List Int) (dp : Option Int)
def Pic.wide (p : Pic) : Nat := ((p.planes.headD []).headD []).length
def Pic.high (p : Pic) : Nat := (p.planes.headD []).length
def Pic.win (p : Pic) : Win := ⟨p.left, p.up, p.wide, p.high⟩
def inW (w : Win) (x y : Int) : Prop := (w.l ≤ x ∧ x < w.l + w.w) ∧ (w.u ≤ y ∧ y < w.u + w.h)
instance (w : Win) (x y : Int) : Decidable (inW w x y) := inferInstanceAs (Decidable (_ ∧ _))
/-- where a place beyond comes to -/
def fold1 (b : Bd) (first many place : Int) : Int := match b with
  | .wrapped => first + (place - first) % many
  | .mirrored => first + (if (place - first) % (2 * many) < many then (place - first) % (2 * many) else 2 * many - 1 - (place - first) % (2 * many))
  | _ => first + (if place - first < 0 then 0 else if place - first ≥ many then many - 1 else place - first)
def Bd.isNum : Bd → Bool
  | .num _ => true
  | _ => false
def Bd.n : Bd → Int
  | .num n => n
  | _ => 0
def back (b : Bd) (w : Win) (x y : Int) : Option (Int × Int) :=
  if inW w x y then some (x, y) else if b.isNum = true then none else some (fold1 b w.l w.w x, fold1 b w.u w.h y)
def Pic.at_ (p : Pic) (pl : Nat) (x y : Int) : Int := ((p.planes.getD pl []).getD (y - p.up).toNat []).getD (x - p.left).toNat 0
/-- the number of the stage on top -/
def val : List Stg → Int → Int → Nat → Int
  | [], _, _, _ => 0
  | .source pic b :: _, x, y, p => match back b pic.win x y with
    | none => b.n
    | some c => pic.at_ p c.1 c.2
  | .framed w b :: r, x, y, p => match back b w x y with
    | none => b.n
    | some c => val r c.1 c.2 p
  | .moved a d :: r, x, y, p => val r (x - a) (y - d) p
  | .flipped true :: r, x, y, p => val r (-x) y p
  | .flipped false :: r, x, y, p => val r x (-y) p
  | .turned :: r, x, y, p => val r y x p
  | .curved t _ :: r, x, y, p => t.getD (val r x y p).toNat 0
structure PicOk (p : Pic) : Prop where
  n0 : 1 ≤ p.planes.length
  n1 : p.planes.length ≤ 4
  w0 : 1 ≤ p.wide
  w1 : p.wide ≤ 48
  h0 : 1 ≤ p.high
  h1 : p.high ≤ 48
  rows : ∀ pl ∈ p.planes, pl.length = p.high
  cols : ∀ pl ∈ p.planes, ∀ row ∈ pl, row.length = p.wide
  nums : ∀ pl ∈ p.planes, ∀ row ∈ pl, ∀ n ∈ row, 0 ≤ n ∧ n ≤ p.depth
  d0 : 1 ≤ p.depth
  d1 : p.depth ≤ 65535
  l0 : -1000 ≤ p.left ∧ p.left ≤ 1000
  u0 : -1000 ≤ p.up ∧ p.up ≤ 1000
def BdOk (b : Bd) (d : Int) : Prop := ∀ n, b = .num n → 0 ≤ n ∧ n ≤ d
structure WinOk (w : Win) : Prop where
  ol : -1000 ≤ w.l ∧ w.l ≤ 1000
  ou : -1000 ≤ w.u ∧ w.u ≤ 1000
  ow : 1 ≤ w.w ∧ w.w ≤ 48
  oh : 1 ≤ w.h ∧ w.h ≤ 48
structure TabOk (t : List Int) (dp : Option Int) (d0 d : Int) : Prop where
  len : (t.length : Int) = d0 + 1
  b0 : 1 ≤ d0 ∧ d0 ≤ 65535
  b1 : 1 ≤ d ∧ d ≤ 65535
  bd : d = dp.getD d0
  nums : ∀ v ∈ t, 0 ≤ v ∧ v ≤ d
/-- a row of stages, the last one first, so many planes, this depth -/
def ChOk : List Stg → Nat → Int → Prop
  | [], _, _ => False
  | .source p b :: r, n, d => r = [] ∧ PicOk p ∧ BdOk b p.depth ∧ n = p.planes.length ∧ d = p.depth
  | .framed w b :: r, n, d => ChOk r n d ∧ WinOk w ∧ BdOk b d
  | .moved a c :: r, n, d => ChOk r n d ∧ (-500 ≤ a ∧ a ≤ 500) ∧ (-500 ≤ c ∧ c ≤ 500)
  | .flipped _ :: r, n, d => ChOk r n d
  | .turned :: r, n, d => ChOk r n d
  | .curved t dp :: r, n, d => ∃ d0, ChOk r n d0 ∧ TabOk t dp d0 d
theorem ChOk.depth : ∀ {l : List Stg} {n : Nat} {d : Int}, ChOk l n d → 1 ≤ d ∧ d ≤ 65535
  | .source p b :: r, n, d, h => by
    obtain ⟨_, ok, _, _, e⟩ := h
    rw [e]
    exact ⟨ok.d0, ok.d1⟩
  | .framed w b :: r, n, d, h => ChOk.depth h.1
  | .moved a c :: r, n, d, h => ChOk.depth h.1
  | .flipped _ :: r, n, d, h => ChOk.depth (l := r) h
  | .turned :: r, n, d, h => ChOk.depth (l := r) h
  | .curved t dp :: r, n, d, h => by
    obtain ⟨d0, _, T⟩ := h
    exact T.b1
theorem ChOk.planes : ∀ {l : List Stg} {n : Nat} {d : Int}, ChOk l n d → 1 ≤ n ∧ n ≤ 4
  | .source p b :: r, n, d, h => by
    obtain ⟨_, ok, _, e, _⟩ := h
    rw [e]
    exact ⟨ok.n0, ok.n1⟩
  | .framed w b :: r, n, d, h => ChOk.planes h.1
  | .moved a c :: r, n, d, h => ChOk.planes h.1
  | .flipped _ :: r, n, d, h => ChOk.planes (l := r) h
  | .turned :: r, n, d, h => ChOk.planes (l := r) h
  | .curved t dp :: r, n, d, h => by
    obtain ⟨d0, h, _⟩ := h
    exact ChOk.planes h
theorem fold1_in {b : Bd} {first many place : Int} (hm : 1 ≤ many) : first ≤ fold1 b first many place ∧ fold1 b first many place < first + many := by
  cases b with
  | wrapped =>
    have h1 := Int.emod_nonneg (place - first) (show many ≠ 0 by omega)
    have h2 := Int.emod_lt_of_pos (place - first) (show 0 < many by omega)
    simp only [fold1]
    omega
  | mirrored =>
    have h1 := Int.emod_nonneg (place - first) (show 2 * many ≠ 0 by omega)
    have h2 := Int.emod_lt_of_pos (place - first) (show 0 < 2 * many by omega)
    simp only [fold1]
    split <;> omega
  | near =>
    simp only [fold1]
    split
    · omega
    · split <;> omega
  | num n =>
    simp only [fold1]
    split
    · omega
    · split <;> omega
theorem back_in {b : Bd} {w : Win} {x y : Int} {c : Int × Int} (hw : 1 ≤ w.w) (hh : 1 ≤ w.h) (e : back b w x y = some c) : inW w c.1 c.2 := by
  unfold back at e
  split at e
  · rename_i h
    have e := Option.some.inj e
    rw [← e]
    exact h
  · split at e
    · cases e
    · have e := Option.some.inj e
      rw [← e]
      exact ⟨fold1_in hw, fold1_in hh⟩
theorem back_none {b : Bd} {w : Win} {x y : Int} (e : back b w x y = none) : ∃ n, b = .num n := by
  unfold back at e
  split at e
  · cases e
  · split at e
    · cases b with
      | num n => exact ⟨n, rfl⟩
      | _ => rename_i h; cases h
    · cases e
theorem Pic.at_mem {p : Pic} (ok : PicOk p) {pl : Nat} (hp : pl < p.planes.length) {x y : Int} (h : inW p.win x y) :
    ∃ plane row, p.planes[pl]? = some plane ∧ plane[(y - p.up).toNat]? = some row ∧ row[(x - p.left).toNat]? = some (p.at_ pl x y) := by
  obtain ⟨⟨h1, h2⟩, h3, h4⟩ := h
  have h1 : p.left ≤ x := h1
  have h2 : x < p.left + (p.wide : Int) := h2
  have h3 : p.up ≤ y := h3
  have h4 : y < p.up + (p.high : Int) := h4
  have m1 : p.planes[pl] ∈ p.planes := List.getElem_mem hp
  have l1 := ok.rows _ m1
  have hr : (y - p.up).toNat < (p.planes[pl]).length := by omega
  have m2 : (p.planes[pl])[(y - p.up).toNat] ∈ p.planes[pl] := List.getElem_mem hr
  have l2 := ok.cols _ m1 _ m2
  have hc : (x - p.left).toNat < ((p.planes[pl])[(y - p.up).toNat]).length := by omega
  refine ⟨_, _, List.getElem?_eq_getElem hp, List.getElem?_eq_getElem hr, ?_⟩
  unfold Pic.at_
  rw [List.getD_eq_getElem?_getD (l := p.planes), List.getElem?_eq_getElem hp]
  show _ = some ((((p.planes[pl]).getD (y - p.up).toNat []).getD (x - p.left).toNat 0))
  rw [List.getD_eq_getElem?_getD (l := p.planes[pl]), List.getElem?_eq_getElem hr]
  show _ = some ((((p.planes[pl])[(y - p.up).toNat]).getD (x - p.left).toNat 0))
  rw [List.getD_eq_getElem?_getD, List.getElem?_eq_getElem hc]
  rfl
theorem Pic.at_le {p : Pic} (ok : PicOk p) {pl : Nat} (hp : pl < p.planes.length) {x y : Int} (h : inW p.win x y) : 0 ≤ p.at_ pl x y ∧ p.at_ pl x y ≤ p.depth := by
  obtain ⟨plane, row, e1, e2, e3⟩ := Pic.at_mem ok hp h
  exact ok.nums _ (List.mem_of_getElem? e1) _ (List.mem_of_getElem? e2) _ (List.mem_of_getElem? e3)
theorem PicOk.win {p : Pic} (ok : PicOk p) : WinOk p.win := ⟨ok.l0, ok.u0, ⟨by have := ok.w0; show (1 : Int) ≤ (p.wide : Int); omega, by have := ok.w1; show (p.wide : Int) ≤ 48; omega⟩, ⟨by have := ok.h0; show (1 : Int) ≤ (p.high : Int); omega, by have := ok.h1; show (p.high : Int) ≤ 48; omega⟩⟩
theorem Tab_at {t : List Int} {dp : Option Int} {d0 d v : Int} (T : TabOk t dp d0 d) (h0 : 0 ≤ v) (h1 : v ≤ d0) : t[v.toNat]? = some (t.getD v.toNat 0) := by
  have hl := T.len
  have h : v.toNat < t.length := by omega
  rw [List.getD_eq_getElem?_getD, List.getElem?_eq_getElem h]
  rfl
theorem val_le : ∀ {l : List Stg} {n : Nat} {d : Int} (_ : ChOk l n d) (x y : Int) (p : Nat), p < n → 0 ≤ val l x y p ∧ val l x y p ≤ d
  | .source pic b :: r, n, d, h, x, y, p, hp => by
    obtain ⟨_, ok, bo, en, ed⟩ := h
    rw [en] at hp
    rw [ed]
    simp only [val]
    cases e : back b pic.win x y with
    | none =>
      obtain ⟨n, eb⟩ := back_none e
      rw [eb]
      exact bo n eb
    | some c =>
      exact Pic.at_le ok hp (back_in ok.win.ow.1 ok.win.oh.1 e)
  | .framed w b :: r, n, d, h, x, y, p, hp => by
    obtain ⟨h, wo, bo⟩ := h
    simp only [val]
    cases e : back b w x y with
    | none =>
      obtain ⟨n, eb⟩ := back_none e
      rw [eb]
      exact bo n eb
    | some c => exact val_le h _ _ _ hp
  | .moved a c :: r, n, d, h, x, y, p, hp => by
    simp only [val]
    exact val_le h.1 _ _ _ hp
  | .flipped true :: r, n, d, h, x, y, p, hp => by
    simp only [val]
    exact val_le (l := r) h _ _ _ hp
  | .flipped false :: r, n, d, h, x, y, p, hp => by
    simp only [val]
    exact val_le (l := r) h _ _ _ hp
  | .turned :: r, n, d, h, x, y, p, hp => by
    simp only [val]
    exact val_le (l := r) h _ _ _ hp
  | .curved t dp :: r, n, d, h, x, y, p, hp => by
    obtain ⟨d0, h, T⟩ := h
    simp only [val]
    have q := val_le h x y p hp
    exact T.nums _ (List.mem_of_getElem? (Tab_at T q.1 q.2))
/-! ### the drawn names: their codes are unlike -/
theorem step_unit : ∀ s ∈ ([1, 3, 5, 7, 9, 11, 15, 17] : List Int), ∀ t, t < 13 → ∀ m, m < 10 → ((m : Nat) + 1 : Int) * (s + 26 * (t : Nat)) % 676 ≠ 0 := by decide +kernel
theorem codes_unlike {s : Int} (hs : s ∈ ([1, 3, 5, 7, 9, 11, 15, 17] : List Int)) {t : Nat} (ht : t < 13) (c : Int) {i j : Nat} (hij : i < j) (hj : j ≤ 10) : (c + (i : Int) * (s + 26 * (t : Int))) % 676 ≠ (c + (j : Int) * (s + 26 * (t : Int))) % 676 := fun e => by
  have h := step_unit s hs t ht (j - i - 1) (by omega)
  have e1 : ((j - i - 1 : Nat) : Int) + 1 = (j : Int) - (i : Int) := by omega
  rw [e1, Int.sub_mul] at h
  generalize (j : Int) * (s + 26 * (t : Int)) = a at e h
  generalize (i : Int) * (s + 26 * (t : Int)) = b at e h
  omega
end K9

set_option maxHeartbeats 4000000
/-! Own rules: what a call leaves as it was (Kp), calls of defs held by a slot, calls of closures from other frames, comprehensions that map. -/
namespace K9
open PySem PySem.Spec PyProof.Rows L2 NdefX LamX

/-! ### what stays -/
abbrev No : Addr → Prop := fun _ => False
abbrev On (a : Addr) : Addr → Prop := fun b => b = a
/-- all but M stays, tuples always, tables of code objects grow -/
structure Kp (T : List NTab) (M : Addr → Prop) (H H' : Hp) : Prop where
  kp : ∀ b o, H b = some o → ¬ M b → (∀ ps, o ≠ .tbl ps) → H' b = some o
  tp : ∀ b xs, H b = some (.tup xs) → H' b = some (.tup xs)
  tb : TabsN T H → TabsN T H'
section
variable {T : List NTab} {M M' : Addr → Prop} {H H1 H2 H' : Hp} {p : Addr} {o o' : HO}
theorem Kp.refl : Kp T M H H := ⟨fun _ _ e _ _ => e, fun _ _ e => e, fun t => t⟩
theorem Kp.trans (a : Kp T M H H1) (b : Kp T M' H1 H2) (h : ∀ c, M' c → M c ∨ H c = none) : Kp T M H H2 where
  kp := fun c o e nm nt => b.kp c o (a.kp c o e nm nt) (fun z => (h c z).elim nm fun y => by rw [y] at e; cases e) nt
  tp := fun c xs e => b.tp c xs (a.tp c xs e)
  tb := fun t => b.tb (a.tb t)
/-- .. of like M -/
theorem Kp.tr (a : Kp T M H H1) (b : Kp T M H1 H2) : Kp T M H H2 := a.trans b fun _ z => .inl z
theorem Kp.trN (a : Kp T M H H1) (b : Kp T No H1 H2) : Kp T M H H2 := a.trans b fun _ z => z.elim
theorem Kp.mono (a : Kp T M H H1) (h : ∀ c, M c → M' c ∨ H c = none) : Kp T M' H H1 :=
  ⟨fun c o e nm nt => a.kp c o e (fun z => (h c z).elim nm fun y => by rw [y] at e; cases e) nt, a.tp, a.tb⟩
theorem Kp.any (a : Kp T No H H1) : Kp T M H H1 := a.mono fun _ z => z.elim
theorem Kp.of (e : ∀ b o, H b = some o → H' b = some o) : Kp T M H H' := ⟨fun b o h _ _ => e b o h, fun b xs h => e b _ h, fun t q hq => (t q hq).ext e⟩
theorem Kp.new (h : H p = none) : Kp T M H (upd H p o) := .of fun b o e => by
  rw [upd_ne (ne_of_none e h)]
  exact e
theorem Kp.ofExt (e : ExtN H H') (t : TabsN T H') : Kp T M H H' := ⟨fun b o h _ nt => e b o h nt, fun b xs h => e b _ h (fun _ z => nomatch z), fun _ => t⟩
/-- what may be written here -/
def Wr : HO → Prop
  | .lst _ => True
  | .dK _ => True
  | .dT _ => True
  | .ins _ _ _ => True
  | _ => False
theorem Kp.put (h : H p = some o) (w : Wr o) : Kp T (On p) H (upd H p o') where
  kp := fun b u e nb _ => by
    rw [upd_ne nb]
    exact e
  tp := fun b xs e => by
    rw [upd_ne (ne_of e h fun z => by rw [← z] at w; exact w)]
    exact e
  tb := fun t q hq => by
    obtain ⟨ps, h1, h2, h3⟩ := t q hq
    refine ⟨ps, ?_, h2, fun pos cv hc => ?_⟩
    · rw [upd_ne (ne_of h1 h fun z => by rw [← z] at w; exact w)]
      exact h1
    · obtain ⟨c, e1, e2⟩ := h3 pos cv hc
      refine ⟨c, e1, ?_⟩
      rw [upd_ne (ne_of e2 h fun z => by rw [← z] at w; exact w)]
      exact e2
/-- a thing of ours that is written is no loss -/
theorem Kp.own (a : Kp T (On p) H H1) (h : H p = none) : Kp T No H H1 := a.mono fun _ z => .inr (by rw [z]; exact h)
theorem Kp.ownM (a : Kp T (fun b => M b ∨ b = p) H H1) (h : H p = none) : Kp T M H H1 := a.mono fun _ z => z.imp id fun y => by rw [y]; exact h
theorem Kp.lst {xs : List V} (a : Kp T M H H1) (h : H p = some (.lst xs)) (n : ¬ M p) : H1 p = some (.lst xs) := a.kp _ _ h n fun _ z => nomatch z
theorem Kp.dK {xs : List (Key × V)} (a : Kp T M H H1) (h : H p = some (.dK xs)) (n : ¬ M p) : H1 p = some (.dK xs) := a.kp _ _ h n fun _ z => nomatch z
theorem Kp.dT {xs : List (List Key × V)} (a : Kp T M H H1) (h : H p = some (.dT xs)) (n : ¬ M p) : H1 p = some (.dT xs) := a.kp _ _ h n fun _ z => nomatch z
theorem Kp.ins {C d : Addr} {fs : List (Str × V)} (a : Kp T M H H1) (h : H p = some (.ins C d fs)) (n : ¬ M p) : H1 p = some (.ins C d fs) := a.kp _ _ h n fun _ z => nomatch z
theorem Kp.frz {ob : Obj} (a : Kp T M H H1) (h : H p = some (.frz ob o)) (n : ¬ M p) : H1 p = some (.frz ob o) := a.kp _ _ h n fun _ z => nomatch z
/-- what is free behind was free ahead -/
theorem Kp.free (a : Kp T M H H1) (n : ¬ M p) (nt : ∀ ps, H p ≠ some (.tbl ps)) (h : H1 p = none) : H p = none := by
  cases e : H p with
  | none => rfl
  | some u =>
    rw [a.kp p u e n fun ps z => nt ps (by rw [e, z])] at h
    cases h
end

/-! ### a def that a slot holds -/
/-- a def of the written part, its promise -/
abbrev Hd (P : Program) (w : World) (K : PySem.W.Frag) (mg : Str → Option Value) (base : Heap) (k : Nat) (f : Addr) (sp : Sp) : Prop := Held P w K mg base k f sp
theorem Hd.mono {P : Program} {w : World} {K : PySem.W.Frag} {mg : Str → Option Value} {base : Heap} {j k : Nat} {f : Addr} {sp : Sp} (h : Hd P w K mg base j f sp) (l : j ≤ k) : Hd P w K mg base k f sp := by
  obtain ⟨fd, ps, F, hk, hb⟩ := h.ex
  exact ⟨⟨fd, ps, F.mono l, hk, hb⟩⟩
theorem Hd.imp {P : Program} {w : World} {K : PySem.W.Frag} {mg : Str → Option Value} {base : Heap} {k : Nat} {f : Addr} {sp sp' : Sp} (h : Hd P w K mg base k f sp) (i : ∀ vs H Q E, sp' vs H Q E → sp vs H Q E) : Hd P w K mg base k f sp' := by
  obtain ⟨fd, ps, F, hk, hb⟩ := h.ex
  exact ⟨⟨fd, ps, F.imp i, hk, hb⟩⟩
/-- f(..) -/
def tCl (sp : Sp) (t : TA) : TE := fun σ H Q => t σ H fun vs H1 => sp vs H1 Q E0
/-- f(..), f a name whose slot holds a def of the written part -/
def tCallV (P : Program) (w : World) (K : PySem.W.Frag) (mg : Str → Option Value) (base : Heap) (k i : Nat) (t : TA) : TE := fun σ H Q => ∃ f sp, σ[i]? = some (some (.ref f)) ∧ Hd P w K mg base k f sp ∧ t σ H fun vs H1 => sp vs H1 Q E0
section
variable {X : Cx} {k i j : Nat} {f : Addr} {sp : Sp} {x : Str} {p pos : Pos} {e : Expr} {es : List Expr} {t : TA}
theorem pe_h (F : Hd X.prog X.w X.K X.mg X.base k f sp) (hr : Room j X.A) (hm : X.mg x = some (.ref f)) (ha : PA X (e :: es) t) (hk : k ≤ j := by omega) (hg : Gl X x := by rfl)
    (hdb : (x == ("__debug__" : Str)) = false := by decide) (he : starEach (e :: es) X.env = (false, eval e X.env) :: starEach es X.env := by rfl) (hpl : (backTo pos (starEach es X.env)).any (·.1) = false := by rfl) :
    PE X (.Call (.Name x p) (e :: es) [] pos) (tCl sp t) := by
  obtain ⟨fd, ps, F, kp, hb⟩ := F.ex
  refine ⟨fun pins s σ H Q I h => ?_⟩
  refine (pe_call (CX := CX0) (E := E0) (dvs := []) F (hr.mono hk) hg hm kp hb .nil pass0 ha hdb he hpl).run pins s σ H Q I ?_
  have e0 : (fun (vs : List V) (H1 : Hp) => sp (vs ++ []) H1 Q E0) = fun vs H1 => sp vs H1 Q E0 := by
    funext vs H1
    rw [List.append_nil]
  show t σ H (fun vs H1 => sp (vs ++ []) H1 Q E0)
  rw [e0]
  exact h
theorem pe_callV (hr : Room j X.A) (hN : X.N[i]? = some x) (hv : Vis X.env.scope x) (ha : PA X (e :: es) t) (hk : k ≤ j := by omega)
    (hdb : (x == ("__debug__" : Str)) = false := by decide) (hcd : (x == ("__classdict__" : Str)) = false := by decide)
    (he : starEach (e :: es) X.env = (false, eval e X.env) :: starEach es X.env := by rfl) (hpl : (backTo pos (starEach es X.env)).any (·.1) = false := by rfl) :
    PE X (.Call (.Name x p) (e :: es) [] pos) (tCallV X.prog X.w X.K X.mg X.base k i t) := by
  refine ⟨fun pins s σ H Q I h => ?_⟩
  obtain ⟨f, sp, hs, A, ht⟩ := h
  obtain ⟨fd, ps, F, kp, hb⟩ := A.ex
  refine (pe_callL (i := i) (f := f) (sp := sp) (dvs := []) (E := E0) (CX := CX0) (F.mono hk) hr hN hv kp hb .nil pass0 ha hdb hcd he hpl).run pins s σ H Q I ⟨hs, ?_⟩
  have e0 : (fun (vs : List V) (H1 : Hp) => sp (vs ++ []) H1 Q E0) = fun vs H1 => sp vs H1 Q E0 := by
    funext vs H1
    rw [List.append_nil]
  show t σ H (fun vs H1 => sp (vs ++ []) H1 Q E0)
  rw [e0]
  exact ht
end
end K9

set_option maxHeartbeats 4000000
/-! Closures that other frames call: their cells are tracked, object by object, from the call of the first frame on that does not own them. -/
namespace K9
open PySem PySem.Spec PyProof.Rows L2 NdefX LamX
/-! ### cells, tracked -/
/-- at c stands o -/
def CellX (c : Addr) (o : Obj) : HO := .ext fun h => h.get? c = some o
abbrev Cs := Addr → Option Obj
def addC (cs : Cs) (H : Hp) : Hp := fun b => match cs b with
  | some o => some (CellX b o)
  | none => H b
def subC (cs : Cs) (H : Hp) : Hp := fun b => match cs b with
  | some _ => none
  | none => H b
section
variable {cs : Cs} {H H' : Hp} {b : Addr} {o : Obj} {u : HO}
theorem addC_at (e : cs b = some o) : addC cs H b = some (CellX b o) := by
  unfold addC
  rw [e]
theorem addC_off (e : cs b = none) : addC cs H b = H b := by
  unfold addC
  rw [e]
theorem subC_at (e : cs b = some o) : subC cs H b = none := by
  unfold subC
  rw [e]
theorem subC_off (e : cs b = none) : subC cs H b = H b := by
  unfold subC
  rw [e]
theorem heap_with (c : Addr) {o : Obj} {v : Option Value} (hd : o.data = .cell v) : ∃ h : Heap, h.get? c = some o := by
  refine ⟨(⟨Array.replicate c o, {}⟩ : Heap).push o, ?_⟩
  have ho : o.isFreed = false := by
    obtain ⟨a1, a2, a3, a4⟩ := o
    cases hd
    rfl
  have q := Heap.get?_push_size (⟨Array.replicate c o, {}⟩ : Heap) ho
  have e : (⟨Array.replicate c o, {}⟩ : Heap).objs.size = c := by simp
  rw [e] at q
  exact q
/-- a cell is no function, no code object -/
theorem cellX_fn {f : Addr} {F : NF} {v : Option Value} (hd : o.data = .cell v) : CellX f o ≠ FnO f F := fun z => by
  obtain ⟨h, e⟩ := heap_with f hd
  have z1 : (fun h : Heap => h.get? f = some o) = _ := HO.ext.inj z
  have z2 := (congrFun z1 h).mp e
  obtain ⟨od, sl, doc, pm, ctv, e2⟩ := z2
  rw [e] at e2
  rw [Option.some.inj e2] at hd
  cases hd
theorem cellX_code {c : Addr} {q : Str} {v : Option Value} (hd : o.data = .cell v) : CellX c o ≠ CodeO c q := fun z => by
  obtain ⟨h, e⟩ := heap_with c hd
  have z1 : (fun h : Heap => h.get? c = some o) = _ := HO.ext.inj z
  obtain ⟨oc, vs, t, e2, e3, _⟩ := (congrFun z1 h).mp e
  rw [e] at e2
  rw [Option.some.inj e2, e3] at hd
  cases hd
end
/-- the cells cs: those that a closure captured, what they hold -/
structure CsOk (cl : List (Str × Addr)) (fr : List Str) (ws : List (Option V)) (cs : Cs) : Prop where
  len : ws.length = fr.length
  all : ∀ y c, cl.lookup y = some c → ∃ o v, cs c = some o ∧ o.data = .cell v
  only : ∀ b o, cs b = some o → (∃ y, cl.lookup y = some b) ∧ ∃ v, o.data = .cell v
  inj : ∀ x y c, cl.lookup x = some c → cl.lookup y = some c → x = y
  has : ∀ (i : Nat) (y : Str), fr[i]? = some y → ∃ c, cl.lookup y = some c ∧ ∀ v, ws[i]? = some (some v) → ∃ o u, cs c = some o ∧ o.data = .cell (some u) ∧ RelV v u
/-- they stand tracked in H -/
def Trk (cs : Cs) (H : Hp) : Prop := ∀ b o, cs b = some o → H b = some (CellX b o)
/-- .. untracked -/
def Utk (cs : Cs) (H : Hp) : Prop := ∀ b o, cs b = some o → H b = none
section
variable {cs : Cs} {H H' H1 : Hp} {cl : List (Str × Addr)} {fr : List Str} {ws : List (Option V)} {T : List NTab} {M : Addr → Prop} {b : Addr} {o : Obj} {u : HO}
theorem trk_add : Trk cs (addC cs H) := fun b o e => addC_at e
theorem utk_sub : Utk cs (subC cs H) := fun b o e => subC_at e
theorem sub_add (n : Utk cs H) : subC cs (addC cs H) = H := by
  funext b
  cases e : cs b with
  | none => rw [subC_off e, addC_off e]
  | some o => rw [subC_at e, n b o e]
theorem add_sub (t : Trk cs H) : addC cs (subC cs H) = H := by
  funext b
  cases e : cs b with
  | none => rw [addC_off e, subC_off e]
  | some o => rw [addC_at e, t b o e]
theorem Utk.add_ext (n : Utk cs H) (e : H b = some u) : addC cs H b = some u := by
  cases q : cs b with
  | none => rw [addC_off q, e]
  | some o =>
    rw [n b o q] at e
    cases e
theorem Kp.add (n : Utk cs H) : Kp T M H (addC cs H) := .of fun b o e => n.add_ext e
/-- what is no cell is there without them -/
theorem Trk.sub_ext (t : Trk cs H) (ok : CsOk cl fr ws cs) (e : H b = some u) (n : ∀ o v, o.data = .cell v → u ≠ CellX b o) : subC cs H b = some u := by
  cases q : cs b with
  | none => rw [subC_off q, e]
  | some o =>
    rw [t b o q] at e
    obtain ⟨_, v, hd⟩ := ok.only b o q
    exact absurd (Option.some.inj e).symm (n o v hd)
theorem Trk.tabs (t : Trk cs H) (ok : CsOk cl fr ws cs) (hT : TabsN T H) : TabsN T (subC cs H) := fun p hp => by
  obtain ⟨ps, h1, h2, h3⟩ := hT p hp
  refine ⟨ps, t.sub_ext ok h1 fun o v hd z => (by unfold CellX at z; cases z), h2, fun pos cv hc => ?_⟩
  obtain ⟨c, e1, e2⟩ := h3 pos cv hc
  exact ⟨c, e1, t.sub_ext ok e2 fun o v hd z => cellX_code hd z.symm⟩
/-- from the heap with the cells back to the one without them: they were untracked ahead -/
theorem Kp.back (n : Utk cs H) (ok : CsOk cl fr ws cs) (t : Trk cs H') (k : Kp T M (addC cs H) H') : Kp T M H (subC cs H') := by
  have off : ∀ c u, H c = some u → cs c = none := fun c u e => by
    cases q : cs c with
    | none => rfl
    | some o =>
      rw [n c o q] at e
      cases e
  refine ⟨fun c u e nm nt => ?_, fun c xs e => ?_, fun hT => t.tabs ok (k.tb ((Kp.add (M := M) n).tb hT))⟩
  · rw [subC_off (off c u e)]
    exact k.kp c u (n.add_ext e) nm nt
  · rw [subC_off (off c _ e)]
    exact k.tp c xs (n.add_ext e)
/-- from the heap without the cells to the one with them -/
theorem Kp.forth (t : Trk cs H) (ok : CsOk cl fr ws cs) (k : Kp T M (subC cs H) H') (n : Utk cs H') (hM : ∀ b o, cs b = some o → ¬ M b) : Kp T M H (addC cs H') := by
  refine ⟨fun c u e nm nt => ?_, fun c xs e => ?_, fun hT => (Kp.add (M := M) n).tb (k.tb (t.tabs ok hT))⟩
  · cases q : cs c with
    | none =>
      rw [addC_off q]
      exact k.kp c u (by rw [subC_off q, e]) nm nt
    | some o =>
      rw [addC_at q, ← t c o q]
      exact e
  · have e1 : subC cs H c = some (.tup xs) := t.sub_ext ok e fun o v hd z => by unfold CellX at z; cases z
    exact n.add_ext (k.tp c xs e1)
end
/-! ### the abstract heap held, the state at a call -/
section
variable {P : Program} {w : World} {K : PySem.W.Frag} {mg : Str → Option Value} {base : Heap} {A : Around} {outer : List Env} {s s' : Shared} {cs : Cs} {H H' : Hp} {h h' : Heap} {cl : List (Str × Addr)} {fr : List Str} {ws : List (Option V)}
theorem hok_sub (t : Trk cs H) (x : HOk P w H h) : HOk P w (subC cs H) h := fun b u e => by
  have nt : ∀ c v, H c = some v → (∀ o, v ≠ CellX c o) → subC cs H c = some v := fun c v e n => by
    cases q : cs c with
    | none => rw [subC_off q, e]
    | some o =>
      rw [t c o q] at e
      exact absurd (Option.some.inj e).symm (n o)
  have e' : H b = some u := by
    cases q : cs b with
    | none => rw [subC_off q] at e; exact e
    | some o => rw [subC_at q] at e; cases e
  exact (x b u e').stay (fun _ _ _ q => q) (fun c q => nt c _ q fun o z => by unfold CellX at z; cases z) fun c xs q => nt c _ q fun o z => by unfold CellX at z; cases z
theorem hok_add (n : Utk cs H) (x : HOk P w H h) (g : ∀ b o, cs b = some o → h.get? b = some o) : HOk P w (addC cs H) h := fun b u e => by
  cases q : cs b with
  | none =>
    rw [addC_off q] at e
    exact (x b u e).stay (fun _ _ _ q => q) (fun c q => n.add_ext q) fun c xs q => n.add_ext q
  | some o =>
    rw [addC_at q] at e
    rw [← Option.some.inj e]
    exact ⟨g b o q, ⟨o, g b o q⟩, fun h1 h2 e1 k => k o e1⟩
theorem trk_get (t : Trk cs H) (x : HOk P w H h) : ∀ b o, cs b = some o → h.get? b = some o := fun b o e => (x b _ (t b o e)).1
theorem env0_sub (e : Env0 P w K mg base A outer s H) (t : Trk cs H) : Env0 P w K mg base A outer s (subC cs H) := by
  have nn : ∀ b, H b = none → subC cs H b = none := fun b n => by
    cases q : cs b with
    | none => rw [subC_off q, n]
    | some o => exact subC_at q
  exact ⟨e.frames, e.mod, fun b o q => ⟨(e.bs b o q).1, nn b (e.bs b o q).2⟩, e.bsz, e.funs, fun b hb => nn b (e.frf b hb), hok_sub t e.hok, e.bare⟩
/-- a call without the cells, seen from the heap with them -/
theorem ce_forth {Q : VK} {u : Value} (t : Trk cs H) (hok : HOk P w H s.heap) (hfr : ∀ b o, cs b = some o → b ∉ frs outer) (c : CE outer P w (subC cs H) s (fun v H' => Utk cs H' → Q v (addC cs H')) u s') : CE outer P w H s Q u s' := by
  obtain ⟨v, H', os, bare, un, hok', r, q⟩ := c
  have g0 := trk_get t hok
  have n : Utk cs H' := fun b o e => un.free b o (g0 b o e) (subC_at e) (by simp)
  have g1 : ∀ b o, cs b = some o → s'.heap.get? b = some o := fun b o e => un.keep b o (g0 b o e) (subC_at e) (hfr b o e) (by simp)
  have sx : ∀ c v, H c = some v → (∀ o, v ≠ CellX c o) → subC cs H c = some v := fun c v e n => by
    cases q : cs c with
    | none => rw [subC_off q, e]
    | some o =>
      rw [t c o q] at e
      exact absurd (Option.some.inj e).symm (n o)
  have off : ∀ b, H b = none → cs b = none := fun b e => by
    cases q : cs b with
    | none => rfl
    | some o =>
      rw [t b o q] at e
      cases e
  refine ⟨v, addC cs H', os, bare, ⟨fun b o e1 e2 hb hx => ?_, fun b o e1 e2 hb hx => ?_, fun b o e1 e2 hx => ?_, fun b o e1 hx => un.there b o e1 hx, fun b xs e => ?_, fun b o xs e => ?_, fun b ps e => ?_⟩, hok_add n hok' g1, r, q n⟩
  · exact un.keep b o e1 (by rw [subC_off (off b e2), e2]) hb hx
  · exact un.slot b o e1 (by rw [subC_off (off b e2), e2]) hb hx
  · rw [addC_off (off b e2)]
    exact un.free b o e1 (by rw [subC_off (off b e2), e2]) hx
  · exact n.add_ext (un.tups b xs (sx b _ e fun o z => by unfold CellX at z; cases z))
  · exact n.add_ext (un.frzs b o xs (sx b _ e fun o z => by unfold CellX at z; cases z))
  · obtain ⟨more, e1⟩ := un.tbls b ps (sx b _ e fun o z => by unfold CellX at z; cases z)
    exact ⟨more, n.add_ext e1⟩
/-- a call with the cells, seen from the heap without them -/
theorem un_back {fs : List Addr} (n : Utk cs H) (g0 : ∀ b o, cs b = some o → h.get? b = some o) (g1 : ∀ b o, cs b = some o → h'.get? b = some o) (hfr : ∀ b o, cs b = some o → b ∉ fs) (un : Un fs [] (addC cs H) H' h h') : Un fs [] H (subC cs H') h h' := by
  have off : ∀ b u, H b = some u → cs b = none := fun b u e => by
    cases q : cs b with
    | none => rfl
    | some o =>
      rw [n b o q] at e
      cases e
  refine ⟨fun b o e1 e2 hb hx => ?_, fun b o e1 e2 hb hx => ?_, fun b o e1 e2 hx => ?_, fun b o e1 hx => un.there b o e1 hx, fun b xs e => ?_, fun b o xs e => ?_, fun b ps e => ?_⟩
  · cases q : cs b with
    | none => exact un.keep b o e1 (by rw [addC_off q, e2]) hb hx
    | some o' =>
      have e3 := g0 b o' q
      rw [e1] at e3
      rw [Option.some.inj e3]
      exact g1 b o' q
  · cases q : cs b with
    | none => exact un.slot b o e1 (by rw [addC_off q, e2]) hb hx
    | some o' => exact absurd hb (hfr b o' q)
  · cases q : cs b with
    | none =>
      rw [subC_off q]
      exact un.free b o e1 (by rw [addC_off q, e2]) hx
    | some o' => exact subC_at q
  · rw [subC_off (off b _ e)]
    exact un.tups b xs (n.add_ext e)
  · rw [subC_off (off b _ e)]
    exact un.frzs b o xs (n.add_ext e)
  · obtain ⟨more, e1⟩ := un.tbls b ps (n.add_ext e)
    exact ⟨more, by rw [subC_off (off b _ e)]; exact e1⟩
end
/-! ### the closure's promise, seen by whoever calls it -/
/-- what is known of the function F at f, its cells cs tracked in H -/
structure CloAt (H : Hp) (f : Addr) (F : NF) (fr : List Str) (ws : List (Option V)) (cs : Cs) : Prop where
  fn : H f = some (FnO f F)
  co : H F.c = some (CodeO F.c F.qual)
  ok : CsOk F.cl fr ws cs
  tr : Trk cs H
/-- a call of f from a frame that does not own its cells -/
structure Cal (P : Program) (w : World) (K : PySem.W.Frag) (mg : Str → Option Value) (base : Heap) (k : Nat) (sp : Addr → NF → Sp) : Prop where
  run : ∀ (f : Addr) (F : NF) (A : Around) (outer : List Env) (s : Shared) (H : Hp) (us : List Value) (vs : List V) (Q : VK), Room k A → Env0 P w K mg base A outer s H → H f = some (FnO f F) → Vals vs us → sp f F vs H Q E0 →
    codeAny (model P w) A (.call (.ref f) ⟨us, []⟩) (CR CX0 outer P w H s Q E0) s
/-- from the promise of the nested def (NOk): what its caller must know, with the cells -/
def spClo (G : NF → Prop) (fr : List Str) (sp : Addr → NF → List (Option V) → Sp) : Addr → NF → Sp := fun f F vs H Q E => ∃ ws cs, G F ∧ CloAt H f F fr ws cs ∧ sp f F ws vs (subC cs H) (fun v H' => Utk cs H' → Q v (addC cs H')) E
theorem Cal.of {P : Program} {w : World} {K : PySem.W.Frag} {mg : Str → Option Value} {base : Heap} {k : Nat} {ps fr : List Str} {G : NF → Prop} {sp : Addr → NF → List (Option V) → Sp}
    (N : ∀ f F, G F → NOk P w K mg base CX0 k f F ps fr (sp f F)) : Cal P w K mg base k (spClo G fr sp) := by
  refine ⟨fun f F A outer s H us vs Q hr e0 hf r h => ?_⟩
  obtain ⟨ws, cs, hG, c, q⟩ := h
  have g0 := trk_get c.tr e0.hok
  have hfr : ∀ b o, cs b = some o → b ∉ frs outer := fun b o e hb => by
    have z := e0.frf b hb
    rw [c.tr b o e] at z
    cases z
  have nf : subC cs H f = some (FnO f F) := c.tr.sub_ext c.ok c.fn fun o v hd z => cellX_fn hd z.symm
  have nc : subC cs H F.c = some (CodeO F.c F.qual) := c.tr.sub_ext c.ok c.co fun o v hd z => cellX_code hd z.symm
  have C : CellsAt F.cl fr ws s.heap (subC cs H) := by
    refine ⟨c.ok.len, fun y a e => ?_, c.ok.inj, fun i y e => ?_⟩
    · obtain ⟨o, v, e1, e2⟩ := c.ok.all y a e
      exact ⟨subC_at e1, v, o, g0 a o e1, e2⟩
    · obtain ⟨a, e1, e2⟩ := c.ok.has i y e
      refine ⟨a, e1, fun v ev => ?_⟩
      obtain ⟨o, u, e3, e4, e5⟩ := e2 v ev
      exact ⟨u, e5, o, g0 a o e3, e4⟩
  refine codeAny_mono ((N f F hG).run A outer s (subC cs H) us vs ws _ _ hr (env0_sub e0 c.tr) nf nc C r q) fun r s' hq => ?_
  cases r with
  | error e => exact hq
  | ok fl =>
    cases fl with
    | ret u => exact ce_forth c.tr e0.hok hfr hq
    | next => exact False.elim hq
    | brk => exact False.elim hq
    | cont => exact False.elim hq
/-- f(..), f a name whose slot holds a closure of another frame -/
def tCallF (i : Nat) (sp : Addr → NF → Sp) (t : TA) : TE := fun σ H Q => ∃ f F, σ[i]? = some (some (.ref f)) ∧ H f = some (FnO f F) ∧ t σ H fun vs H1 => H1 f = some (FnO f F) ∧ sp f F vs H1 Q E0
section
variable {X : Cx} {k i j : Nat} {x : Str} {sp : Addr → NF → Sp} {p pos : Pos} {e : Expr} {es : List Expr} {t : TA}
theorem pe_callF (C : Cal X.prog X.w X.K X.mg X.base k sp) (hr : Room j X.A) (hN : X.N[i]? = some x) (hv : Vis X.env.scope x) (ha : PA X (e :: es) t) (hk : k ≤ j := by omega)
    (hd : (x == ("__debug__" : Str)) = false := by decide) (hcd : (x == ("__classdict__" : Str)) = false := by decide)
    (he : starEach (e :: es) X.env = (false, eval e X.env) :: starEach es X.env := by rfl) (hpl : (backTo pos (starEach es X.env)).any (·.1) = false := by rfl) :
    PE X (.Call (.Name x p) (e :: es) [] pos) (tCallF i sp t) := by
  refine ⟨fun pins s σ H Q I h => ?_⟩
  obtain ⟨f, F, hs, hf, ht⟩ := h
  refine wpAny_Call_Name_kw (thn ((pe_var (pos := p) hN hv hd hcd).run pins s σ H (fun v H1 => v = .ref f ∧ H1 = H) I ⟨.ref f, hs, rfl, rfl⟩) fun u s1 ⟨v, H1, I1, r1, ev, eH⟩ => ?_)
  subst ev
  subst eH
  obtain rfl : u = Value.ref f := r1
  refine PySem.W.callWith_F (first := []) (fnAt_of I1 hf) (thn (ha.run pos pins s1 σ _ _ I1 ht) fun us s2 ⟨vs, H2, I2, r, h1, q⟩ => ⟨fnAt_of I2 h1, ?_⟩) he hpl
  show wpAny _ _ (call (.ref f) us) _ _ _
  refine wpAny_call (codeAny_mono (C.run f F X.A X.stack s2 H2 us vs Q (hr.mono hk) I2.env0 h1 r q) fun r s' hq => ?_)
  cases r with
  | error e => exact False.elim hq
  | ok fl =>
    cases fl with
    | ret u => exact I2.after hq
    | next => exact False.elim hq
    | brk => exact False.elim hq
    | cont => exact False.elim hq
end
/-! ### a def called with a closure of the running frame's own: the cells are tracked from here on -/
/-- fr: the captured names, js: their places; within the call the cells are tracked -/
def tClC (cl : List (Str × Addr)) (fr : List Str) (js : List Nat) (sp : Sp) (t : TA) : TE := fun σ H Q => t σ H fun vs H1 => ∀ cs, CsOk cl fr (js.map (slotAt σ)) cs → Utk cs H1 → sp vs (addC cs H1) (fun v H' => Trk cs H' ∧ Q v (subC cs H')) E0
section
variable {X : Cx} {k j : Nat} {f : Addr} {sp : Sp} {x : Str} {p pos : Pos} {e : Expr} {es : List Expr} {t : TA} {cl : List (Str × Addr)} {fr : List Str} {js : List Nat}
open Classical in
theorem cells_trk {pins : List (Addr × Obj)} {σ : L2.St} {H : Hp} {s : Shared} (I : Inv X pins σ H s) (c : Caps X cl fr js) : ∃ cs : Cs, CsOk cl fr (js.map (slotAt σ)) cs ∧ Utk cs H ∧ ∀ b o, cs b = some o → s.heap.get? b = some o ∧ ∃ y, X.env.cells.lookup y = some b := by
  have C := cells_of I c
  refine ⟨fun b => if (∃ y, cl.lookup y = some b) then s.heap.get? b else none, ⟨C.len, fun y a e => ?_, fun b o e => ?_, C.inj, fun i y e => ?_⟩, fun b o e => ?_, fun b o e => ?_⟩
  · obtain ⟨_, v, o, ho, hd⟩ := C.all y a e
    exact ⟨o, v, (if_pos ⟨y, e⟩).trans ho, hd⟩
  · by_cases q : ∃ y, cl.lookup y = some b
    · have e2 := (if_pos q).symm.trans e
      refine ⟨q, ?_⟩
      obtain ⟨y, hy⟩ := q
      obtain ⟨_, v, o', ho, hd⟩ := C.all y b hy
      rw [e2] at ho
      rw [Option.some.inj ho]
      exact ⟨v, hd⟩
    · have e2 := (if_neg q).symm.trans e
      cases e2
  · obtain ⟨a, ha, hv⟩ := C.has i y e
    refine ⟨a, ha, fun v ev => ?_⟩
    obtain ⟨u, r, o, ho, hd⟩ := hv v ev
    exact ⟨o, u, (if_pos ⟨y, ha⟩).trans ho, hd, r⟩
  · by_cases q : ∃ y, cl.lookup y = some b
    · obtain ⟨y, hy⟩ := q
      exact (C.all y b hy).1
    · have e2 := (if_neg q).symm.trans e
      cases e2
  · by_cases q : ∃ y, cl.lookup y = some b
    · refine ⟨(if_pos q).symm.trans e, ?_⟩
      obtain ⟨y, hy⟩ := q
      exact ⟨y, c.sub y b hy⟩
    · have e2 := (if_neg q).symm.trans e
      cases e2
theorem pe_hC (F : Hd X.prog X.w X.K X.mg X.base k f sp) (cp : X.Ok → Caps X cl fr js) (hfn : ∀ y, X.fn y = true) (hr : Room j X.A) (hm : X.mg x = some (.ref f)) (ha : PA X (e :: es) t) (hk : k ≤ j := by omega) (hg : Gl X x := by rfl)
    (hdb : (x == ("__debug__" : Str)) = false := by decide) (he : starEach (e :: es) X.env = (false, eval e X.env) :: starEach es X.env := by rfl) (hpl : (backTo pos (starEach es X.env)).any (·.1) = false := by rfl) :
    PE X (.Call (.Name x p) (e :: es) [] pos) (tClC cl fr js sp t) := by
  obtain ⟨fd, ps, G, kp, hb⟩ := F.ex
  refine ⟨fun pins s σ H Q I h => ?_⟩
  refine wpAny_Call_Name_kw (ld_glob I hg hm ?_ hdb)
  refine PySem.W.callWith_K (h₀ := X.base) I.ok.mod.kin kp (thn (ha.run pos pins s σ H _ I h) fun us s1 ⟨vs, H1, I1, r, q⟩ => ⟨I1.kIn, ?_⟩) he hpl
  obtain ⟨cs, ok, n, g⟩ := cells_trk I1 (cp I1.ok)
  have q1 := q cs ok n
  have hl : us.length = ps.length := by rw [← r.length]; exact G.len _ _ _ _ q1
  have nfr : ∀ b o, cs b = some o → b ∉ frs X.stack := fun b o e hb => by
    obtain ⟨_, y, hy⟩ := g b o e
    rcases List.mem_cons.mp (I1.stkSub b hb) with z | z
    · exact I1.cne y b hy z
    · obtain ⟨_, ob, ho, _⟩ := I1.ok.funs.mem z
      exact absurd (Nat.lt_of_lt_of_le (Heap.lt_size ho) (I1.ok.cab y b (hfn y) hy)) (Nat.lt_irrefl _)
  have nbase : ∀ b o, cs b = some o → ∀ u, X.base.get? b ≠ some u := fun b o e u z => by
    obtain ⟨_, y, hy⟩ := g b o e
    exact absurd (Nat.lt_of_lt_of_le (Heap.lt_size z) (Nat.le_trans I1.ok.bsz (I1.ok.cab y b (hfn y) hy))) (Nat.lt_irrefl _)
  have off : ∀ b, (∀ o, cs b ≠ some o) → cs b = none := fun b h => by
    cases q : cs b with
    | none => rfl
    | some o => exact absurd q (h o)
  have e1 := I1.env0
  have e0 : Env0 X.prog X.w X.K X.mg X.base X.A X.stack s1 (addC cs H1) := ⟨e1.frames, e1.mod, fun b o z => ⟨(e1.bs b o z).1, by rw [addC_off (off b fun o' z' => nbase b o' z' o z)]; exact (e1.bs b o z).2⟩, e1.bsz, e1.funs,
    fun b hb => by rw [addC_off (off b fun o' z' => nfr b o' z' hb)]; exact e1.frf b hb, hok_add n e1.hok fun b o z => (g b o z).1, e1.bare⟩
  have hbind := hb s1 us I1.kIn (by rw [List.append_nil]; exact hl)
  rw [List.append_nil] at hbind
  refine wpAny_call (codeAny_mono (G.run X.A X.stack s1 (addC cs H1) ⟨us, []⟩ us vs _ E0 (hr.mono hk) e0 hbind r q1) fun r s' hq => ?_)
  cases r with
  | error e => exact False.elim hq
  | ok fl =>
    cases fl with
    | next => exact False.elim hq
    | brk => exact False.elim hq
    | cont => exact False.elim hq
    | ret u =>
      obtain ⟨v, H', os, bare, un, hok, rv, tr, qq⟩ := hq
      have g1 := trk_get tr hok
      exact I1.after ⟨v, subC cs H', os, bare, un_back n (fun b o z => (g b o z).1) g1 nfr un, hok_sub tr hok, rv, qq⟩
end
end K9

set_option maxHeartbeats 4000000
/-! Short words over the layer for this text. -/
namespace K9
open PySem PySem.Spec PyProof.Rows L2 NdefX LamX
section
variable {P : Program} {w : World} {K : PySem.W.Frag} {mg : Str → Option Value} {base : Heap}
/-- THE RULE for a def of this text -/
theorem mk_hd {x qual : Str} {params : Arguments} {body : List Stmt} {scope : Scope} {f : Addr} {N ps : List Str} {k : Nat} {sp : Sp} (F : ∃ fd, FunD K x qual params body scope [] [] f fd ∧ Binds K fd ps []) (S : FnScope N ps scope) (len : ∀ vs H Q E, sp vs H Q E → vs.length = ps.length)
    (hbody : ∀ (cdv : Value) (A : Around) (outer : List Env) (s : Shared) (H : Hp) (vs : List V) (Q : VK) (E : XK), Room k (A.deeper (envOfC qual scope s.heap.objs.size f cdv)) → sp vs H Q E →
      ∃ t, PSs (cxOf CX0 P w K mg base N qual scope f cdv A outer s H E).nox body t ∧ t { nx := fun _ H' => Q .non H', rt := Q } (start N vs) H) : Hd P w K mg base (k + 1) f sp := by
  obtain ⟨fd, D, b⟩ := F
  refine ⟨⟨fd, ps, D.ok S len fun cdv A outer s H vs Q E hr h => ?_, D.kp, b⟩⟩
  obtain ⟨t, p, q⟩ := hbody cdv A outer s H vs Q E hr h
  exact ⟨t, p.nox, q⟩
end
/-! ### a text's constants -/
section
variable {X : Cx} {a b : Expr} {ta tb : TE} {p p2 pos : Pos} {x : Str}
theorem pe_gi {n : Int} (h : ∃ u, X.mg x = some u ∧ RelV (.int n) u) (hg : Gl X x := by rfl) (hd : (x == ("__debug__" : Str)) = false := by decide) : PE X (.Name x pos) (tC (.int n)) := by
  obtain ⟨u, e, r⟩ := h
  exact pe_glob hg e r hd
theorem pe_gs {z : Str} (h : ∃ u, X.mg x = some u ∧ RelV (.str z) u) (hg : Gl X x := by rfl) (hd : (x == ("__debug__" : Str)) = false := by decide) : PE X (.Name x pos) (tC (.str z)) := by
  obtain ⟨u, e, r⟩ := h
  exact pe_glob hg e r hd
theorem pe_gf {d : Addr} (h : X.mg x = some (.ref d)) (hg : Gl X x := by rfl) (hd : (x == ("__debug__" : Str)) = false := by decide) : PE X (.Name x pos) (tC (.ref d)) := pe_glob hg h rfl hd
/-- isinstance(a, T), T a built-in type -/
def tIs (K : PySem.W.Frag) (ty : String) (ta : TE) : TE := fun σ H Q => ta σ H fun x H1 => rIsi K [x, .ty ty] H1 Q
theorem pe_is {ty : String} {T : Str} (hI : X.mg "isinstance" = none) (hT : X.mg T = none) (ha : PE X a ta) (hv : bootBuiltins T = some (.type ty)) (hg : Gl X "isinstance" := by rfl) (hg2 : Gl X T := by rfl) (hn : T ≠ "__name__" := by decide) (hd : (T == ("__debug__" : Str)) = false := by decide)
    (n1 : starEach [a, .Name T p2] X.env = (false, eval a X.env) :: starEach [.Name T p2] X.env := by rfl) (n2 : starEach [.Name T p2] X.env = (false, eval (.Name T p2) X.env) :: starEach [] X.env := by rfl) (n3 : (backTo pos (starEach [.Name T p2] X.env)).any (·.1) = false := by rfl) :
    PE X (.Call (.Name "isinstance" p) [a, .Name T p2] [] pos) (tIs X.K ty ta) :=
  ⟨fun pins s σ H Q I h => (pe_callB (t := tCons ta (tCons (tC (.ty ty)) tNil)) call_isi hg hI PyProof.Rows.boot_isinstance (pa_cons ha (pa_cons (pe_bltn (v := .ty ty) hg2 hT hv rfl hn hd) pa_nil n2) n1) (by decide) (by decide) n1 n3).run pins s σ H Q I h⟩
theorem bb_int : bootBuiltins "int" = some (.type "int") := PyProof.Rows.boot_int
theorem bb_str : bootBuiltins "str" = some (.type "str") := PyProof.Rows.boot_str
theorem bb_bool : bootBuiltins "bool" = some (.type "bool") := PyProof.Rows.boot_bool
theorem bb_tuple : bootBuiltins "tuple" = some (.type "tuple") := PyProof.Rows.boot_tuple
theorem bb_list : bootBuiltins "list" = some (.type "list") := PyProof.Rows.boot_list
theorem bb_dict : bootBuiltins "dict" = some (.type "dict") := PyProof.Rows.boot_dict
theorem bb_all : bootBuiltins "all" = some (.builtin "all") := PyProof.Rows.boot_all
theorem bb_len : bootBuiltins "len" = some (.builtin "len") := PySem.boot_len
theorem bb_max : bootBuiltins "max" = some (.builtin "max") := PyProof.Rows.boot_max
theorem bb_min : bootBuiltins "min" = some (.builtin "min") := PyProof.Rows.boot_min
end
section
variable {K : PySem.W.Frag} {H : Hp} {Q : VK} {ty t : String} {b : Bool} {v : V}
theorem isi (x : TyX K H v (.type t)) (h : kitB t ty = some b) (q : Q (.bl b) H) : rIsi K [v, .ty ty] H Q := ⟨_, _, _, _, b, rfl, .ty _, x, kit_ty h, q⟩
theorem ty_int (i : Int) : TyX K H (.int i) (.type "int") := .base (.int i)
theorem ty_str (i : Str) : TyX K H (.str i) (.type "str") := .base (.str i)
theorem ty_bl (i : Bool) : TyX K H (.bl i) (.type "bool") := .base (.bl i)
theorem ty_tup {a : Addr} {xs : List V} (h : H a = some (.tup xs)) : TyX K H (.ref a) (.type "tuple") := .base (.tup h)
theorem ty_lst {a : Addr} {xs : List V} (h : H a = some (.lst xs)) : TyX K H (.ref a) (.type "list") := .base (.lst h)
end
theorem k_ii : kitB "int" "int" = some true := by decide +kernel
theorem k_ib : kitB "int" "bool" = some false := by decide +kernel
theorem k_is : kitB "int" "str" = some false := by decide +kernel
theorem k_si : kitB "str" "int" = some false := by decide +kernel
theorem k_ss : kitB "str" "str" = some true := by decide +kernel
theorem k_bb : kitB "bool" "bool" = some true := by decide +kernel
theorem k_tt : kitB "tuple" "tuple" = some true := by decide +kernel
/-- a chain a <= b <= c of ints -/
abbrev rLe : R2 := rI0 fun i j => .bl (decide (i ≤ j))
abbrev rLt : R2 := rI0 fun i j => .bl (decide (i < j))
theorem and_dec {p q : Prop} [Decidable p] [Decidable q] : (decide p && decide q) = decide (p ∧ q) := (Bool.decide_and p q).symm
end K9

set_option maxHeartbeats 4000000
/-! Comprehensions without tests: one value a turn, a fact of each value that leans on tuples alone. -/
namespace K9
open PySem PySem.Spec PyProof.Rows L2 NdefX LamX
/-- the state ahead of turn i: D is the list so far -/
structure LcP (T : List NTab) (M : Addr → Prop) (R : Nat → V → Hp → Prop) (G : Nat → Hp → Prop) (H1 : Hp) (D : Addr) (i : Nat) (H : Hp) : Prop where
  kp : Kp T M H1 H
  acc : ∃ acc, H D = some (.lst acc) ∧ acc.length = i ∧ ∀ j v, acc[j]? = some v → R j v H
  ex : G i H
/-- a fact that leans on tuples alone -/
def Tst (R : Nat → V → Hp → Prop) : Prop := ∀ j v H H', (∀ b xs, H b = some (.tup xs) → H' b = some (.tup xs)) → R j v H → R j v H'
theorem Tst.pure {r : Nat → V → Prop} : Tst fun j v _ => r j v := fun _ _ _ _ _ h => h
section
variable {T : List NTab} {M : Addr → Prop} {R : Nat → V → Hp → Prop} {G : Nat → Hp → Prop} {H1 H H4 : Hp} {D : Addr} {i n : Nat} {y : V}
theorem LcP.start (hD : H1 D = none) (g : G 0 (upd H1 D (.lst []))) : LcP T M R G H1 D 0 (upd H1 D (.lst [])) :=
  ⟨.new hD, ⟨[], upd_same, rfl, fun j v e => by simp at e⟩, g⟩
theorem LcP.next (p : LcP T M R G H1 D i H) (st : Tst R) (nD : ¬ M D) (hD : H1 D = none) (k : Kp T M H H4) (hi : i < sizeLine) (r : R i y H4) (g : ∀ acc, G (i + 1) (upd H4 D (.lst acc))) :
    ∃ acc, H4 D = some (.lst acc) ∧ acc.length < sizeLine ∧ LcP T M R G H1 D (i + 1) (upd H4 D (.lst (acc ++ [y]))) := by
  obtain ⟨acc, e, el, h⟩ := p.acc
  have e4 := k.lst e nD
  have kt : ∀ b xs, H4 b = some (.tup xs) → (upd H4 D (.lst (acc ++ [y]))) b = some (.tup xs) := fun b xs z => by
    rw [upd_ne (ne_of z e4 fun q => nomatch q)]
    exact z
  refine ⟨acc, e4, by rw [el]; exact hi, (p.kp.tr k).trans (.put e4 True.intro) fun c hc => .inr (by rw [hc]; exact hD), ⟨acc ++ [y], upd_same, by rw [List.length_append, el]; rfl, fun j v q => ?_⟩, g _⟩
  rw [List.getElem?_append] at q
  by_cases hj : j < acc.length
  · rw [if_pos hj] at q
    exact st j v _ _ (fun b xs z => kt b xs (k.tp b xs z)) (h j v q)
  · rw [if_neg hj] at q
    have ej : j = i := by
      have := (List.getElem?_eq_some_iff.mp q).1
      simp at this
      omega
    rw [ej, ← el, Nat.sub_self] at q
    have ey : y = v := Option.some.inj q
    rw [ej, ← ey]
    exact st i y _ _ kt r
end
section
variable {T : List NTab} {M : Addr → Prop} {R : Nat → V → Hp → Prop} {G : Nat → Hp → Prop} {g : TG} {tt : TT} {te : TE} {vs : List Nat} {σ : L2.St} {H1 : Hp} {D : Addr} {Qd : Hp → Prop} {K : PySem.W.Frag} {a : Addr} {xs : List V}
/-- what a turn is to show -/
abbrev LcT (T : List NTab) (M : Addr → Prop) (R : Nat → V → Hp → Prop) (G : Nat → Hp → Prop) (g : TG) (tt : TT) (te : TE) (vs : List Nat) (σ : L2.St) (H1 : Hp) (D : Addr) (i : Nat) (x : V) (H : Hp) : Prop :=
  g x (wipe σ vs) H fun σ2 H2 => wipe σ2 vs = wipe σ vs ∧ tt σ2 H2 fun b H3 => if b = true then te σ2 H3 fun y H4 => ∃ acc, H4 D = some (.lst acc) ∧ acc.length < sizeLine ∧ LcP T M R G H1 D (i + 1) (upd H4 D (.lst (acc ++ [y]))) else LcP T M R G H1 D (i + 1) H3
abbrev LcD (T : List NTab) (M : Addr → Prop) (R : Nat → V → Hp → Prop) (G : Nat → Hp → Prop) (H1 : Hp) (D : Addr) (n : Nat) (Qd : Hp → Prop) : Prop :=
  ∀ H acc, Kp T M H1 H → H D = some (.lst acc) → acc.length = n → (∀ j v, acc[j]? = some v → R j v H) → G n H → Qd H
/-- a comprehension's loop, as its reading asks -/
abbrev LcW (J : It) (g : TG) (tt : TT) (te : TE) (vs : List Nat) (σ : L2.St) (H1 : Hp) (D : Addr) (Qd : Hp → Prop) : Prop :=
  ∃ W : Nat → Nat → Hp → Prop, (∃ m, W 0 m (upd H1 D (.lst []))) ∧ ∀ i m H, W i m H → (J.stop i H ∧ Qd H) ∨
    (J.go i H ∧ ∃ Nx : Hp → Prop, (∀ H', Nx H' → ∃ m', m' < m ∧ W (i + 1) m' H') ∧ ∀ x H', J.yld i H x H' → g x (wipe σ vs) H' fun σ2 H2 => wipe σ2 vs = wipe σ vs ∧ tt σ2 H2 fun b H3 =>
      if b = true then te σ2 H3 fun y H4 => ∃ acc, H4 D = some (.lst acc) ∧ acc.length < sizeLine ∧ Nx (upd H4 D (.lst (acc ++ [y]))) else Nx H3)
theorem lc_mapT (hD : H1 D = none) (ha : H1 a = some (.tup xs)) (g0 : G 0 (upd H1 D (.lst []))) (hs : ∀ i x H, xs[i]? = some x → LcP T M R G H1 D i H → LcT T M R G g tt te vs σ H1 D i x H) (hd : LcD T M R G H1 D xs.length Qd) : LcW (Itt K a) g tt te vs σ H1 D Qd :=
  lc_tup (K := K) (a := a) (xs := xs) (vs := vs) (σ := σ) (g := g) (tt := tt) (te := te) (H1 := H1) (D := D) (Qd := Qd) (fun i H => LcP T M R G H1 D i H) (LcP.start hD g0) (fun i H _ p => SqT.of (p.kp.tp a xs ha)) (fun i x H hx p => hs i x H hx p)
    fun H p => by
      obtain ⟨acc, e, el, h⟩ := p.acc
      exact hd H acc p.kp e el h p.ex
theorem lc_mapL (hD : H1 D = none) (ha : H1 a = some (.lst xs)) (na : ¬ M a) (g0 : G 0 (upd H1 D (.lst []))) (hs : ∀ i x H, xs[i]? = some x → LcP T M R G H1 D i H → LcT T M R G g tt te vs σ H1 D i x H) (hd : LcD T M R G H1 D xs.length Qd) : LcW (Itl K a) g tt te vs σ H1 D Qd :=
  lc_list (K := K) (a := a) (xs := xs) (vs := vs) (σ := σ) (g := g) (tt := tt) (te := te) (H1 := H1) (D := D) (Qd := Qd) (fun i H => LcP T M R G H1 D i H) (LcP.start hD g0) (fun i H _ p => SqL.of (p.kp.lst ha na)) (fun i x H hx p => hs i x H hx p)
    fun H p => by
      obtain ⟨acc, e, el, h⟩ := p.acc
      exact hd H acc p.kp e el h p.ex
theorem lc_mapR {lo : Int} {n : Nat} (hD : H1 D = none) (g0 : G 0 (upd H1 D (.lst []))) (hs : ∀ i H, i < n → LcP T M R G H1 D i H → LcT T M R G g tt te vs σ H1 D i (.int (lo + i)) H) (hd : LcD T M R G H1 D n Qd) : LcW (Itr lo n) g tt te vs σ H1 D Qd :=
  lc_range (lo := lo) (n := n) (vs := vs) (σ := σ) (g := g) (tt := tt) (te := te) (H1 := H1) (D := D) (Qd := Qd) (fun i H => LcP T M R G H1 D i H) (LcP.start hD g0) (fun i H hx p => hs i H hx p)
    fun H p => by
      obtain ⟨acc, e, el, h⟩ := p.acc
      exact hd H acc p.kp e el h p.ex
/-- over a text, sign by sign -/
theorem lc_mapS {z : Str} (hD : H1 D = none) (g0 : G 0 (upd H1 D (.lst []))) (hs : ∀ i c H, z.cps[i]? = some c → LcP T M R G H1 D i H → LcT T M R G g tt te vs σ H1 D i (.str ⟨#[c]⟩) H) (hd : LcD T M R G H1 D z.cps.size Qd) :
    LcW (Its z) g tt te vs σ H1 D Qd := by
  refine ⟨fun i m H => m = z.cps.size - i ∧ i ≤ z.cps.size ∧ LcP T M R G H1 D i H, ⟨z.cps.size, by simp, Nat.zero_le _, LcP.start hD g0⟩, ?_⟩
  rintro i m H ⟨rfl, hi, p⟩
  by_cases hlt : i < z.cps.size
  · refine .inr ⟨hlt, LcP T M R G H1 D (i + 1), fun H' p' => ⟨z.cps.size - (i + 1), by omega, rfl, hlt, p'⟩, fun x H' y => ?_⟩
    obtain ⟨e, c, hc, ex⟩ := y
    subst e
    subst ex
    exact hs i c _ hc p
  · have e : i = z.cps.size := by omega
    subst e
    obtain ⟨acc, e, el, h⟩ := p.acc
    exact .inl ⟨Nat.le_refl _, hd H acc p.kp e el h p.ex⟩
end
/-- nothing more is carried -/
abbrev G0 : Nat → Hp → Prop := fun _ _ => True
/-- all true -/
abbrev RT : Nat → V → Hp → Prop := fun _ v _ => v = .bl true
theorem Tst.rt : Tst RT := fun _ _ _ _ _ h => h
theorem acc_true {acc : List V} {H : Hp} (h : ∀ j v, acc[j]? = some v → RT j v H) : acc = (List.replicate acc.length true).map V.bl := by
  apply List.ext_getElem?
  intro j
  rw [List.getElem?_map]
  by_cases hj : j < acc.length
  · rw [List.getElem?_eq_getElem hj, List.getElem?_replicate, if_pos hj]
    exact congrArg some (h j _ (List.getElem?_eq_getElem hj))
  · rw [List.getElem?_eq_none (by omega), List.getElem?_replicate, if_neg hj]
    rfl
theorem all_true (n : Nat) : (List.replicate n true).all id = true := by
  rw [List.all_eq_true]
  intro x hx
  exact (List.mem_replicate.mp hx).2
/-- all([..]) of nothing but True -/
theorem all_of {K : PySem.W.Frag} {D : Addr} {acc : List V} {H : Hp} {Q : VK} (e : H D = some (.lst acc)) (h : ∀ j v, acc[j]? = some v → RT j v H) (q : Q (.bl true) H) : rAll K [.ref D] H Q := by
  refine ⟨D, List.replicate acc.length true, rfl, ?_, ?_⟩
  · rw [← acc_true h]
    exact SqL.of e
  · rw [all_true]
    exact q
/-- ints -/
theorem acc_map {α : Type} {f : α → V} {l : List α} {acc : List V} (hl : acc.length = l.length) (h : ∀ (j : Nat) (v : V) (x : α), acc[j]? = some v → l[j]? = some x → v = f x) : acc = l.map f := by
  apply List.ext_getElem?
  intro j
  rw [List.getElem?_map]
  by_cases hj : j < acc.length
  · have hj2 : j < l.length := by omega
    rw [List.getElem?_eq_getElem hj, List.getElem?_eq_getElem hj2]
    exact congrArg some (h j _ _ (List.getElem?_eq_getElem hj) (List.getElem?_eq_getElem hj2))
  · rw [List.getElem?_eq_none (by omega), List.getElem?_eq_none (by omega)]
    rfl
theorem line_big {n : Nat} (h : n ≤ 16000000) : n < sizeLine := by
  rw [sizeLine_eq]
  omega
end K9

set_option maxHeartbeats 4000000
namespace K9
open PySem PySem.Spec PyProof.Rows L2 NdefX LamX
theorem iteD {p A B : Prop} [Decidable p] (h1 : p → A) (h2 : ¬ p → B) : if decide p = true then A else B := by
  by_cases h : p
  · rw [if_pos (decide_eq_true h)]
    exact h1 h
  · rw [if_neg (by rw [decide_eq_false h]; exact Bool.false_ne_true)]
    exact h2 h
theorem qb {Q : VK} {H : Hp} {b c : Bool} (q : Q (.bl c) H) (e : b = c) : Q (.bl b) H := by
  rw [e]
  exact q
section
variable {P : Program} {w : World} {K : PySem.W.Frag} {mg : Str → Option Value} {base : Heap}
def spWhole (K : PySem.W.Frag) : Sp := fun vs H Q _ => (∃ i, vs = [.int i] ∧ Q (.bl true) H) ∨ (∃ x, vs = [.str x] ∧ Q (.bl false) H)
theorem ok_whole (T : Tx w K mg) : Hd P w K mg base 1 (He.ga K "is_whole") (spWhole K) := by
  refine mk_hd T.F_is_whole sc_is_whole (fun vs H Q E h => ?_) (fun cdv A outer s H vs Q E hr h => ?_)
  · rcases h with ⟨_, rfl, _⟩ | ⟨_, rfl, _⟩ <;> rfl
  · refine ⟨_, pss_one (ps_ret (pe_and (pe_is T.f_isinstance T.f_int (pv 0) bb_int) (pe_one (pe_not (pe_is T.f_isinstance T.f_bool (pv 0) bb_bool))))), ?_⟩
    rcases h with ⟨i, rfl, q⟩ | ⟨i, rfl, q⟩
    · exact ⟨_, rfl, isi (ty_int i) k_ii ⟨_, rfl, iteT ⟨_, rfl, isi (ty_int i) k_ib ⟨_, rfl, q⟩⟩⟩⟩
    · exact ⟨_, rfl, isi (ty_str i) k_si ⟨_, rfl, iteF q⟩⟩
def spFrom (K : PySem.W.Frag) : Sp := fun vs H Q _ => (∃ i a b, vs = [.int i, .int a, .int b] ∧ (a ≤ i ∧ i ≤ b) ∧ Q (.bl true) H) ∨ (∃ x a b, vs = [.str x, a, b] ∧ Q (.bl false) H)
theorem ok_from (T : Tx w K mg) : Hd P w K mg base 2 (He.ga K "is_from") (spFrom K) := by
  refine mk_hd T.F_is_from sc_is_from (fun vs H Q E h => ?_) (fun cdv A outer s H vs Q E hr h => ?_)
  · rcases h with ⟨_, _, _, rfl, _⟩ | ⟨_, _, _, rfl, _⟩ <;> rfl
  · refine ⟨_, pss_one (ps_ret (pe_and (pe_h (ok_whole T) hr T.g_is_whole (pa_cons (pv 0) pa_nil)) (pe_one (pe_chain op_le op_le (pv 1) (pv 0) (pv 2))))), ?_⟩
    rcases h with ⟨i, a, b, rfl, hi, q⟩ | ⟨i, a, b, rfl, q⟩
    · refine ⟨_, rfl, .inl ⟨i, rfl, _, rfl, iteT ?_⟩⟩
      refine ⟨_, rfl, _, rfl, _, _, rfl, rfl, _, rfl, iteD (fun h1 => ?_) fun h1 => absurd hi.1 h1⟩
      refine ⟨_, rfl, _, _, rfl, rfl, ?_⟩
      exact qb q (decide_eq_true hi.2)
    · exact ⟨_, rfl, .inr ⟨i, rfl, _, rfl, iteF q⟩⟩
end
end K9

set_option maxHeartbeats 4000000
namespace K9
open PySem PySem.Spec PyProof.Rows L2 NdefX LamX
/-! ### names -/
structure NameOk (x : Str) : Prop where
  l0 : 1 ≤ x.length
  l1 : x.length ≤ 8
  low : ∀ c ∈ x.cps.toList, 97 ≤ c ∧ c ≤ 122
theorem letters : ("abcdefghijklmnopqrstuvwxyz" : Str).cps.toList = (List.range 26).map fun i => i + 97 := by decide +kernel
theorem letter_in {c : Nat} (h0 : 97 ≤ c) (h1 : c ≤ 122) : c ∈ ("abcdefghijklmnopqrstuvwxyz" : Str).cps.toList := by
  rw [letters]
  exact List.mem_map.mpr ⟨c - 97, List.mem_range.mpr (by omega), by omega⟩
def WinAt (H : Hp) (a : Addr) (w : Win) : Prop := H a = some (.tup [.int w.l, .int w.u, .int w.w, .int w.h])
theorem small_tup (h : n ≤ 1000) : n ≤ sizeLine := Nat.le_of_lt (small1000 h)
section
variable {P : Program} {w : World} {K : PySem.W.Frag} {mg : Str → Option Value} {base : Heap} {T : List NTab}
def spName (T : List NTab) : Sp := fun vs H Q _ => ∃ x, vs = [.str x] ∧ NameOk x ∧ ∀ H', Kp T No H H' → Q (.bl true) H'
theorem ok_name (X : Tx w K mg) : Hd P w K mg base 1 (He.ga K "is_name") (spName T) := by
  refine mk_hd X.F_is_name sc_is_name (fun _ _ _ _ ⟨_, e, _⟩ => by rw [e]; rfl) (fun cdv A outer s H vs Q E hr h => ?_)
  obtain ⟨x, rfl, ok, q⟩ := h
  refine ⟨_, pss_cons (ps_if (PW.pt (pw_or (pt_not (pt_val (pe_is X.f_isinstance X.f_str (pv 0) bb_str))) (pw_or1 (pt_not (pt_chain op_le op_le pe_int (pe_callB call_len_str (by rfl) X.f_len bb_len (pa_cons (pv 0) pa_nil)) (pe_gi X.i_LONGEST_NAME)))))) (pss_one (ps_ret pe_bl)) pss_nil)
    (pss_one (ps_ret (pe_callB (cr_all rfl) (by rfl) X.f_all bb_all (pa_cons (pe_lc (own := [("sign", 1)]) (g := gName 1) (by rfl) sc_is_name.nd (pi_str (pv 0)) (blkOk_by (N := ["thing", "sign"]) (sc := defScope s_is_name) (by decide +kernel)) (fun _ _ _ _ _ => pg_name (i := 1) sc_is_name.nd rfl (Or.inl rfl)) (fun _ _ _ _ _ => pts_nil)
      (fun _ _ _ _ _ => pe_cmpR op_in_sign (pv 1) (pe_gs X.t_LETTERS) rfl)) pa_nil)))), ?_⟩
  have hl : x.length ≤ sizeLine := small_tup (by have := ok.l1; omega)
  refine ⟨_, rfl, isi (ty_str x) k_ss ⟨_, rfl, iteF ?_⟩⟩
  refine ⟨_, rfl, _, rfl, hl, _, _, rfl, rfl, _, rfl, iteD (fun h1 => ?_) fun h1 => absurd ok.l0 (by omega)⟩
  refine ⟨_, _, rfl, rfl, _, rfl, ?_⟩
  have e2 : decide ((x.length : Int) ≤ 8) = true := decide_eq_true (by have := ok.l1; omega)
  show if (!decide ((x.length : Int) ≤ 8)) = true then _ else _
  rw [e2]
  refine iteF ?_
  refine ⟨_, rfl, _, rfl, fun D hD => lc_mapS (T := T) (M := No) (R := RT) (G := G0) hD True.intro (fun i c H1 hc p => ?_) fun H1 acc k e el ha _ => ?_⟩
  · refine ⟨rfl, ?_⟩
    have hm := ok.low c (by rw [← Array.getElem?_toList] at hc; exact List.mem_of_getElem? hc)
    refine ⟨_, rfl, c, _, rfl, rfl, ?_⟩
    refine p.next Tst.rt id hD .refl (line_big ?_) ?_ fun _ => True.intro
    · have := (Array.getElem?_eq_some_iff.mp hc).1
      have h8 := ok.l1
      have : x.length = x.cps.size := rfl
      omega
    · exact congrArg V.bl (decide_eq_true (letter_in hm.1 hm.2))
  · exact all_of e ha (q H1 k)
def spLies : Sp := fun vs H Q _ => ∃ a win x y, vs = [.ref a, .int x, .int y] ∧ WinAt H a win ∧ Q (.bl (decide (inW win x y))) H
theorem ok_lies (X : Tx w K mg) : Hd P w K mg base 1 (He.ga K "lies_in") spLies := by
  refine mk_hd X.F_lies_in sc_lies_in (fun _ _ _ _ ⟨_, _, _, _, e, _⟩ => by rw [e]; rfl) (fun cdv A outer s H vs Q E hr h => ?_)
  obtain ⟨a, win, x, y, rfl, hw, q⟩ := h
  have nd := sc_lies_in.nd
  refine ⟨_, pss_cons (ps_asg (pv 0) (pg_tup rfl (pgs_cons (pg_name (i := 3) nd rfl (.inl rfl)) (pgs_cons (pg_name (i := 4) nd rfl (.inl rfl)) (pgs_cons (pg_name (i := 5) nd rfl (.inl rfl)) (pgs_cons (pg_name (i := 6) nd rfl (.inl rfl)) pgs_nil))))))
    (pss_one (ps_ret (pe_and (pe_chain op_le op_lt (pv 3) (pv 1) (pe_op op_add (pv 3) (pv 5))) (pe_one (pe_chain op_le op_lt (pv 4) (pv 2) (pe_op op_add (pv 4) (pv 6))))))), ?_⟩
  refine ⟨_, rfl, a, _, rfl, SqT.of hw, rfl, _, _, rfl, _, _, rfl, _, _, rfl, _, _, rfl, rfl, ?_⟩
  refine ⟨_, rfl, _, rfl, _, _, rfl, rfl, _, rfl, iteD (fun h1 => ?_) fun h1 => ⟨_, rfl, iteF (qb q (decide_eq_false fun z => h1 z.1.1).symm)⟩⟩
  refine ⟨_, rfl, _, rfl, _, _, rfl, rfl, _, _, rfl, rfl, _, rfl, iteD (fun h2 => ?_) fun h2 => qb q (decide_eq_false fun z => h2 z.1.2).symm⟩
  refine ⟨_, rfl, _, rfl, _, _, rfl, rfl, _, rfl, iteD (fun h3 => ?_) fun h3 => qb q (decide_eq_false fun z => h3 z.2.1).symm⟩
  refine ⟨_, rfl, _, rfl, _, _, rfl, rfl, _, _, rfl, rfl, ?_⟩
  refine qb q ?_
  by_cases h4 : y < win.u + win.h
  · exact (decide_eq_true h4).trans (decide_eq_true (show inW win x y from ⟨⟨h1, h2⟩, h3, h4⟩)).symm
  · exact (decide_eq_false h4).trans (decide_eq_false fun z : inW win x y => h4 z.2.2).symm
end
end K9

set_option maxHeartbeats 4000000
namespace K9
open PySem PySem.Spec PyProof.Rows L2 NdefX LamX
theorem nth_int {ns : List Int} {i : Nat} {x : V} (h : (ns.map V.int)[i]? = some x) : ∃ n, ns[i]? = some n ∧ x = .int n := by
  rw [List.getElem?_map] at h
  cases e : ns[i]? with
  | none => rw [e] at h; cases h
  | some n => rw [e] at h; exact ⟨n, rfl, (Option.some.inj h).symm⟩
def bdV : Bd → V
  | .near => .str "near"
  | .wrapped => .str "wrapped"
  | .mirrored => .str "mirrored"
  | .num n => .int n
theorem in_near : (if false = true then !inV (.str "near") [.str "near", .str "wrapped", .str "mirrored"] else inV (.str "near") [.str "near", .str "wrapped", .str "mirrored"]) = true := by decide +kernel
theorem in_wrapped : (if false = true then !inV (.str "wrapped") [.str "near", .str "wrapped", .str "mirrored"] else inV (.str "wrapped") [.str "near", .str "wrapped", .str "mirrored"]) = true := by decide +kernel
theorem in_mirrored : (if false = true then !inV (.str "mirrored") [.str "near", .str "wrapped", .str "mirrored"] else inV (.str "mirrored") [.str "near", .str "wrapped", .str "mirrored"]) = true := by decide +kernel
section
variable {P : Program} {w : World} {K : PySem.W.Frag} {mg : Str → Option Value} {base : Heap} {T : List NTab}
def spWholes (T : List NTab) : Sp := fun vs H Q _ => ∃ (t : Addr) (ns : List Int) (a b : Int), vs = [.ref t, .int a, .int b] ∧ H t = some (.tup (ns.map V.int)) ∧ (∀ n ∈ ns, a ≤ n ∧ n ≤ b) ∧ ns.length ≤ 70000 ∧ ∀ H', Kp T No H H' → Q (.bl true) H'
theorem ok_wholes (X : Tx w K mg) : Hd P w K mg base 3 (He.ga K "are_wholes") (spWholes T) := by
  refine mk_hd X.F_are_wholes sc_are_wholes (fun _ _ _ _ ⟨_, _, _, _, e, _⟩ => by rw [e]; rfl) (fun cdv A outer s H vs Q E hr h => ?_)
  obtain ⟨t, ns, a, b, rfl, ht, hn, hl, q⟩ := h
  have nd := sc_are_wholes.nd
  refine ⟨_, pss_one (ps_ret (pe_and (pe_is X.f_isinstance X.f_tuple (pv 0) bb_tuple) (pe_one (pe_callB (cr_all rfl) (by rfl) X.f_all bb_all (pa_cons (pe_lc (own := [("one", 3)]) (g := gName 3) (by rfl) nd (pi_tup (pv 0)) (blkOk_by (N := ["thing", "least", "most", "one"]) (sc := defScope s_are_wholes) (by decide +kernel))
      (fun _ _ _ _ _ => pg_name (i := 3) nd rfl (Or.inl rfl)) (fun _ _ _ _ _ => pts_nil) (fun _ _ _ _ _ => pe_h (ok_from X) hr X.g_is_from (pa_cons (pv 3) (pa_cons (pv 1) (pa_cons (pv 2) pa_nil))))) pa_nil))))), ?_⟩
  refine ⟨_, rfl, isi (ty_tup ht) k_tt ⟨_, rfl, iteT ?_⟩⟩
  refine ⟨_, rfl, t, rfl, ⟨_, SqT.of ht⟩, fun D hD => lc_mapT (T := T) (M := No) (R := RT) (G := G0) hD ht True.intro (fun i x H1 hx p => ?_) fun H1 acc k e el ha _ => all_of e ha (q H1 k)⟩
  obtain ⟨n, hn2, rfl⟩ := nth_int hx
  refine ⟨rfl, ?_⟩
  refine ⟨_, rfl, _, rfl, _, rfl, .inl ⟨_, _, _, rfl, hn n (List.mem_of_getElem? hn2), ?_⟩⟩
  refine p.next Tst.rt id hD .refl (line_big ?_) rfl fun _ => True.intro
  have := (List.getElem?_eq_some_iff.mp hn2).1
  omega
def spIsWin : Sp := fun vs H Q _ => ∃ a win, vs = [.ref a] ∧ WinAt H a win ∧ WinOk win ∧ Q (.bl true) H
theorem ok_is_win (X : Tx w K mg) : Hd P w K mg base 3 (He.ga K "is_window") spIsWin := by
  refine mk_hd X.F_is_window sc_is_window (fun _ _ _ _ ⟨_, _, e, _⟩ => by rw [e]; rfl) (fun cdv A outer s H vs Q E hr h => ?_)
  obtain ⟨a, win, rfl, hw, ok, q⟩ := h
  have nd := sc_is_window.nd
  have F : Hd P w K mg base 2 (He.ga K "is_from") (spFrom K) := ok_from X
  refine ⟨_, pss_cons (ps_if (PW.pt (pw_or (pt_not (pt_val (pe_is X.f_isinstance X.f_tuple (pv 0) bb_tuple))) (pw_or1 (pt_cmpR op_ne (pe_callB call_len_seq (by rfl) X.f_len bb_len (pa_cons (pv 0) pa_nil)) pe_int (nomark _))))) (pss_one (ps_ret pe_bl)) pss_nil)
    (pss_cons (ps_asg (pv 0) (pg_tup rfl (pgs_cons (pg_name (i := 1) nd rfl (.inl rfl)) (pgs_cons (pg_name (i := 2) nd rfl (.inl rfl)) (pgs_cons (pg_name (i := 3) nd rfl (.inl rfl)) (pgs_cons (pg_name (i := 4) nd rfl (.inl rfl)) pgs_nil))))))
    (pss_cons (ps_if (PW.pt (pw_or (pt_not (pt_val (pe_h F hr X.g_is_from (pa_cons (pv 1) (pa_cons (pe_un un_neg (pe_gi X.i_FARTHEST)) (pa_cons (pe_gi X.i_FARTHEST) pa_nil)))))) (pw_or1 (pt_not (pt_val (pe_h F hr X.g_is_from (pa_cons (pv 2) (pa_cons (pe_un un_neg (pe_gi X.i_FARTHEST)) (pa_cons (pe_gi X.i_FARTHEST) pa_nil))))))))) (pss_one (ps_ret pe_bl)) pss_nil)
    (pss_one (ps_ret (pe_and (pe_h F hr X.g_is_from (pa_cons (pv 3) (pa_cons pe_int (pa_cons (pe_gi X.i_WIDEST) pa_nil)))) (pe_one (pe_h F hr X.g_is_from (pa_cons (pv 4) (pa_cons pe_int (pa_cons (pe_gi X.i_WIDEST) pa_nil)))))))))), ?_⟩
  refine ⟨_, rfl, isi (ty_tup hw) k_tt ⟨_, rfl, iteF ?_⟩⟩
  refine ⟨_, rfl, a, _, rfl, .inr (SqT.of hw), rfl, _, rfl, iteF ?_⟩
  refine ⟨_, rfl, a, _, rfl, SqT.of hw, rfl, _, _, rfl, _, _, rfl, _, _, rfl, _, _, rfl, rfl, ?_⟩
  refine ⟨_, rfl, _, rfl, .inl ⟨_, _, _, rfl, ok.ol, _, rfl, iteF ?_⟩⟩
  refine ⟨_, rfl, _, rfl, .inl ⟨_, _, _, rfl, ok.ou, _, rfl, iteF ?_⟩⟩
  exact ⟨_, rfl, .inl ⟨_, _, _, rfl, ok.ow, _, rfl, iteT ⟨_, rfl, .inl ⟨_, _, _, rfl, ok.oh, q⟩⟩⟩⟩
/-! ### borders -/
def spBorder (K : PySem.W.Frag) : Sp := fun vs H Q _ => ∃ b, vs = [bdV b] ∧ (∀ n, b = .num n → 0 ≤ n ∧ n ≤ 65535) ∧ Q (.bl true) H
theorem Tx.borders (X : Tx w K mg) (H : Hp) : SqT K H (He.ga K "BORDERS") [.str "near", .str "wrapped", .str "mirrored"] := by
  obtain ⟨h, _, _, c⟩ := X.said
  exact He.tupB_ok (He.ba c.more).1 H
theorem ok_border (X : Tx w K mg) : Hd P w K mg base 3 (He.ga K "is_border") (spBorder K) := by
  refine mk_hd X.F_is_border sc_is_border (fun _ _ _ _ ⟨_, e, _⟩ => by rw [e]; rfl) (fun cdv A outer s H vs Q E hr h => ?_)
  obtain ⟨b, rfl, hb, q⟩ := h
  refine ⟨_, pss_one (ps_ret (pe_or (pe_h (ok_from X) hr X.g_is_from (pa_cons (pv 0) (pa_cons pe_int (pa_cons (pe_gi X.i_DEEPEST) pa_nil)))) (pe_one (pe_and (pe_is X.f_isinstance X.f_str (pv 0) bb_str) (pe_one (pe_cmpR op_in_seq (pv 0) (pe_gf X.g_BORDERS) rfl)))))), ?_⟩
  cases b with
  | num n => exact ⟨_, rfl, .inl ⟨_, _, _, rfl, hb n rfl, _, rfl, iteT q⟩⟩
  | near => exact ⟨_, rfl, .inr ⟨_, _, _, rfl, _, rfl, iteF ⟨_, rfl, isi (ty_str _) k_ss ⟨_, rfl, iteT ⟨_, rfl, _, _, rfl, .inr (X.borders H), rfl, rfl, qb q in_near⟩⟩⟩⟩⟩
  | wrapped => exact ⟨_, rfl, .inr ⟨_, _, _, rfl, _, rfl, iteF ⟨_, rfl, isi (ty_str _) k_ss ⟨_, rfl, iteT ⟨_, rfl, _, _, rfl, .inr (X.borders H), rfl, rfl, qb q in_wrapped⟩⟩⟩⟩⟩
  | mirrored => exact ⟨_, rfl, .inr ⟨_, _, _, rfl, _, rfl, iteF ⟨_, rfl, isi (ty_str _) k_ss ⟨_, rfl, iteT ⟨_, rfl, _, _, rfl, .inr (X.borders H), rfl, rfl, qb q in_mirrored⟩⟩⟩⟩⟩
def spOne : Sp := fun vs H Q _ => ∃ b f m p, vs = [bdV b, .int f, .int m, .int p] ∧ b.isNum = false ∧ 1 ≤ m ∧ m ≤ 48 ∧ Q (.int (fold1 b f m p)) H
theorem ok_one (X : Tx w K mg) : Hd P w K mg base 1 (He.ga K "folded_one") spOne := by
  refine mk_hd X.F_folded_one sc_folded_one (fun _ _ _ _ ⟨_, _, _, _, e, _⟩ => by rw [e]; rfl) (fun cdv A outer s H vs Q E hr h => ?_)
  obtain ⟨b, f, m, p, rfl, hb, hm, hm2, q⟩ := h
  have nd := sc_folded_one.nd
  refine ⟨_, pss_cons (ps_set (i := 4) nd rfl (.inl rfl) (pe_op op_sub (pv 3) (pv 1)))
    (pss_cons (ps_if (pt_cmpR op_eq (pv 0) (pe_gs X.t_NEAR) (nomark _)) (pss_one (ps_ret (pe_op op_add (pv 1) (pe_callB (call_min2 rfl) (by rfl) X.f_min bb_min (pa_cons (pe_callB (call_max2 rfl) (by rfl) X.f_max bb_max (pa_cons (pv 4) (pa_cons pe_int pa_nil))) (pa_cons (pe_op op_sub (pv 2) pe_int) pa_nil)))))) pss_nil)
    (pss_cons (ps_if (pt_cmpR op_eq (pv 0) (pe_gs X.t_WRAPPED) (nomark _)) (pss_one (ps_ret (pe_op op_add (pv 1) (pe_op op_mod (pv 4) (pv 2))))) pss_nil)
    (pss_cons (ps_set (i := 5) nd rfl (.inl rfl) (pe_op op_mod (pv 4) (pe_op op_mul pe_int (pv 2))))
    (pss_one (ps_ret (pe_op op_add (pv 1) (pe_callB (call_min2 rfl) (by rfl) X.f_min bb_min (pa_cons (pv 5) (pa_cons (pe_op op_sub (pe_op op_sub (pe_op op_mul pe_int (pv 2)) pe_int) (pv 5)) pa_nil))))))))), ?_⟩
  refine ⟨_, rfl, _, rfl, _, _, rfl, rfl, ?_⟩
  have qi : ∀ i, i = fold1 b f m p → Q (.int i) H := fun i e => by rw [e]; exact q
  cases b with
  | num n => cases hb
  | near =>
    refine ⟨_, rfl, rfl, _, rfl, iteD (fun _ => ?_) fun z => absurd rfl z⟩
    refine ⟨_, rfl, _, rfl, _, _, rfl, _, rfl, _, _, rfl, rfl, _, _, rfl, _, _, rfl, rfl, qi _ ?_⟩
    simp only [fold1]
    (repeat' split) <;> omega
  | wrapped =>
    refine ⟨_, rfl, rfl, _, rfl, iteD (fun z => absurd z (by decide +kernel)) fun _ => ?_⟩
    refine ⟨_, rfl, rfl, _, rfl, iteD (fun _ => ?_) fun z => absurd rfl z⟩
    exact ⟨_, rfl, _, rfl, _, rfl, _, _, rfl, rfl, (by show 0 < m; omega), _, _, rfl, rfl, qi _ rfl⟩
  | mirrored =>
    refine ⟨_, rfl, rfl, _, rfl, iteD (fun z => absurd z (by decide +kernel)) fun _ => ?_⟩
    refine ⟨_, rfl, rfl, _, rfl, iteD (fun z => absurd z (by decide +kernel)) fun _ => ?_⟩
    refine ⟨_, rfl, _, rfl, _, _, rfl, rfl, .inl ⟨by decide, by decide⟩, _, _, rfl, rfl, (by show 0 < 2 * m; omega), ?_⟩
    refine ⟨_, rfl, _, rfl, _, rfl, _, _, rfl, rfl, .inl ⟨by decide, by decide⟩, _, _, rfl, rfl, _, rfl, _, _, rfl, rfl, _, _, rfl, _, _, rfl, rfl, qi _ ?_⟩
    have h1 := Int.emod_nonneg (p - f) (show 2 * m ≠ 0 by omega)
    have h2 := Int.emod_lt_of_pos (p - f) (show 0 < 2 * m by omega)
    simp only [fold1]
    (repeat' split) <;> omega
end
end K9

set_option maxHeartbeats 4000000
/-! How pictures, stages, shapes lie in the heap; the written tables. -/
namespace K9
open PySem PySem.Spec PyProof.Rows L2 NdefX LamX
/-! ### the written tables -/
theorem tupAt_ok {K : PySem.W.Frag} {a : Addr} {vs : List He.Dv} (h : tupAtB K a vs = true) (H : Hp) : SqT K H a (vs.map (He.Dv.v K)) := by
  unfold tupAtB at h
  split at h
  · rename_i c od its n sl q
    obtain ⟨h1, h2⟩ := He.ba h
    obtain ⟨h3, h4⟩ := He.ba h2
    exact .inr ⟨_, its, n, q, congrArg Value.type (of_decide_eq_true h1), rfl, of_decide_eq_true h3, He.relAll_ok h4⟩
  · cases h
section
variable {w : World} {K : PySem.W.Frag} {mg : Str → Option Value}
theorem Tx.ex1 (X : Tx w K mg) : ex K = true := by
  obtain ⟨h, _, _, c⟩ := X.said
  exact c.more
theorem Tx.tab (X : Tx w K mg) (i : Nat) {t : He.Tab} (e : ts[i]? = some t) : ∃ es n, KDict K w (t.1 K) es n := by
  obtain ⟨h, _, _, c⟩ := X.said
  exact c.t.tab i e
theorem Tx.geo (X : Tx w K mg) {x : Str} {l : List He.Dv} (h : (x, l) ∈ rows) : KDct K w (He.ga K "GEOMETRY") x (.ref (rowAd x K)) ∧ ∀ H, SqT K H (rowAd x K) (l.map (He.Dv.v K)) := by
  obtain ⟨h1, h2⟩ := He.ba X.ex1
  obtain ⟨h3, h4⟩ := He.ba h2
  obtain ⟨h5, h6⟩ := He.ba h4
  obtain ⟨h7, h8⟩ := He.ba h6
  obtain ⟨es, n, D⟩ := X.tab 0 rfl
  obtain ⟨u, e, r⟩ := He.valsB_ok h5 (q := (x, .adr (rowAd x))) (List.mem_map.mpr ⟨(x, l), h, rfl⟩)
  exact ⟨⟨es, n, u, D.at_, D.lit, e, r⟩, fun H => tupAt_ok (List.all_eq_true.mp h7 (x, l) h) H⟩
theorem Tx.pla (X : Tx w K mg) {x y : Str} (h : (x, He.Dv.glo y) ∈ ([("moved", .glo "place_of_moved"), ("flipped", .glo "place_of_flipped"), ("turned", .glo "place_of_turned")] : List (Str × He.Dv))) : KDct K w (He.ga K "KINDS_OF_PLACE") x (.ref (He.ga K y)) := by
  obtain ⟨h1, h2⟩ := He.ba X.ex1
  obtain ⟨h3, h4⟩ := He.ba h2
  obtain ⟨h5, h6⟩ := He.ba h4
  obtain ⟨h7, h8⟩ := He.ba h6
  obtain ⟨h9, h10⟩ := He.ba h8
  obtain ⟨es, n, D⟩ := X.tab 1 rfl
  obtain ⟨u, e, r⟩ := He.valsB_ok h9 h
  exact ⟨es, n, u, D.at_, D.lit, e, r⟩
theorem Tx.isa (X : Tx w K mg) : isaB K (He.ga K "Picture") = true := by
  obtain ⟨h1, h2⟩ := He.ba X.ex1
  obtain ⟨h3, h4⟩ := He.ba h2
  obtain ⟨h5, h6⟩ := He.ba h4
  obtain ⟨h7, h8⟩ := He.ba h6
  obtain ⟨h9, h10⟩ := He.ba h8
  exact (He.ba h10).1
theorem Tx.noBy (X : Tx w K mg) {x : Str} (h : x ∈ geoKeys) : PySem.W.nsIn K (He.ga K "PLACES_OF_BY") x = some none := by
  obtain ⟨h1, h2⟩ := He.ba X.ex1
  obtain ⟨h3, h4⟩ := He.ba h2
  obtain ⟨h5, h6⟩ := He.ba h4
  obtain ⟨h7, h8⟩ := He.ba h6
  obtain ⟨h9, h10⟩ := He.ba h8
  exact of_decide_eq_true (List.all_eq_true.mp (He.ba h10).2 x h)
theorem Tx.tables (X : Tx w K mg) (H : Hp) : SqT K H (He.ga K "TABLES") [.ref (He.ga K "GEOMETRY"), .ref (He.ga K "COLOURS"), .ref (He.ga K "FILTERS"), .ref (He.ga K "MEANS"), .ref (He.ga K "SUMS")] := by
  obtain ⟨h1, h2⟩ := He.ba X.ex1
  exact He.tupB_ok (He.ba h2).1 H
end
/-! ### data -/
/-- as many objects, each one a thing by F -/
structure All2 {α : Type} (F : Addr → α → Prop) (as : List Addr) (xs : List α) : Prop where
  len : as.length = xs.length
  at_ : ∀ (i : Nat) (a : Addr) (x : α), as[i]? = some a → xs[i]? = some x → F a x
theorem All2.mono {α : Type} {F G : Addr → α → Prop} {as : List Addr} {xs : List α} (h : All2 F as xs) (i : ∀ a x, F a x → G a x) : All2 G as xs := ⟨h.len, fun j a x e1 e2 => i _ _ (h.at_ j a x e1 e2)⟩
theorem All2.get {α : Type} {F : Addr → α → Prop} {as : List Addr} {xs : List α} (h : All2 F as xs) {i : Nat} {x : α} (e : xs[i]? = some x) : ∃ a, as[i]? = some a ∧ F a x := by
  have hi := (List.getElem?_eq_some_iff.mp e).1
  have hi2 : i < as.length := by
    rw [h.len]
    exact hi
  exact ⟨as[i], List.getElem?_eq_getElem hi2, h.at_ i _ x (List.getElem?_eq_getElem hi2) e⟩
/-- tuples stay -/
abbrev TupK (H H' : Hp) : Prop := ∀ b xs, H b = some (.tup xs) → H' b = some (.tup xs)
abbrev RowAt (H : Hp) (a : Addr) (row : List Int) : Prop := H a = some (.tup (row.map V.int))
def PlaneAt (H : Hp) (a : Addr) (pl : List (List Int)) : Prop := ∃ rs : List Addr, H a = some (.tup (rs.map V.ref)) ∧ All2 (RowAt H) rs pl
def PlanesAt (H : Hp) (a : Addr) (ps : List (List (List Int))) : Prop := ∃ rs : List Addr, H a = some (.tup (rs.map V.ref)) ∧ All2 (PlaneAt H) rs ps
theorem PlaneAt.keep {H H' : Hp} {a : Addr} {pl : List (List Int)} (h : PlaneAt H a pl) (k : TupK H H') : PlaneAt H' a pl := by
  obtain ⟨rs, e, q⟩ := h
  exact ⟨rs, k _ _ e, q.mono fun a x z => k _ _ z⟩
theorem PlanesAt.keep {H H' : Hp} {a : Addr} {ps : List (List (List Int))} (h : PlanesAt H a ps) (k : TupK H H') : PlanesAt H' a ps := by
  obtain ⟨rs, e, q⟩ := h
  exact ⟨rs, k _ _ e, q.mono fun a x z => z.keep k⟩
theorem TupK.of {T : List NTab} {M : Addr → Prop} {H H' : Hp} (k : Kp T M H H') : TupK H H' := k.tp
def picF (t : Addr) (p : Pic) : List (Str × V) := [("planes", .ref t), ("left", .int p.left), ("up", .int p.up), ("depth", .int p.depth)]
/-- pictures stay -/
abbrev InsK (H H' : Hp) (C : Addr) : Prop := ∀ b d t p, H b = some (.ins C d (picF t p)) → H' b = some (.ins C d (picF t p))
def PicAt (K : PySem.W.Frag) (H : Hp) (a : Addr) (p : Pic) : Prop := ∃ dx t, H a = some (.ins (He.ga K "Picture") dx (picF t p)) ∧ PlanesAt H t p.planes
theorem picF_planes (t : Addr) (p : Pic) : (picF t p).lookup ("planes" : Str) = some (.ref t) := by
  unfold picF
  rw [List.lookup_cons]
  rfl
theorem picF_left (t : Addr) (p : Pic) : (picF t p).lookup ("left" : Str) = some (.int p.left) := by
  unfold picF
  simp only [List.lookup_cons]
  rw [show (("left" : Str) == "planes") = false by decide +kernel, show (("left" : Str) == "left") = true by decide +kernel]
theorem picF_up (t : Addr) (p : Pic) : (picF t p).lookup ("up" : Str) = some (.int p.up) := by
  unfold picF
  simp only [List.lookup_cons]
  rw [show (("up" : Str) == "planes") = false by decide +kernel, show (("up" : Str) == "left") = false by decide +kernel, show (("up" : Str) == "up") = true by decide +kernel]
theorem picF_depth (t : Addr) (p : Pic) : (picF t p).lookup ("depth" : Str) = some (.int p.depth) := by
  unfold picF
  simp only [List.lookup_cons]
  rw [show (("depth" : Str) == "planes") = false by decide +kernel, show (("depth" : Str) == "left") = false by decide +kernel, show (("depth" : Str) == "up") = false by decide +kernel, show (("depth" : Str) == "depth") = true by decide +kernel]
theorem picF_no (t : Addr) (p : Pic) {m : Str} (h : (m == ("planes" : Str)) = false ∧ (m == ("left" : Str)) = false ∧ (m == ("up" : Str)) = false ∧ (m == ("depth" : Str)) = false) : (picF t p).lookup m = none := by
  unfold picF
  simp only [List.lookup_cons, h.1, h.2.1, h.2.2.1, h.2.2.2]
  rfl
def optV : Option Int → V
  | none => .non
  | some d => .int d
/-- a stage made of «of» -/
def StgAt (K : PySem.W.Frag) (H : Hp) (a : Addr) (of : Str) : Stg → Prop
  | .source p b => ∃ pa, H a = some (.tup [.str "source", .ref pa, bdV b]) ∧ PicAt K H pa p
  | .framed w b => ∃ wa, H a = some (.tup [.str "framed", .str of, .ref wa, bdV b]) ∧ WinAt H wa w
  | .moved r d => H a = some (.tup [.str "moved", .str of, .int r, .int d])
  | .flipped b => H a = some (.tup [.str "flipped", .str of, .bl b])
  | .turned => H a = some (.tup [.str "turned", .str of])
  | .curved t dp => ∃ ta, H a = some (.tup [.str "curved", .str of, .ref ta, optV dp]) ∧ RowAt H ta t
def Stg.kind : Stg → Str
  | .source _ _ => "source"
  | .framed _ _ => "framed"
  | .moved _ _ => "moved"
  | .flipped _ => "flipped"
  | .turned => "turned"
  | .curved _ _ => "curved"
/-- its tuple's items -/
def StgAt.tup {K : PySem.W.Frag} {H : Hp} {a : Addr} {of : Str} {s : Stg} (h : StgAt K H a of s) : ∃ r, H a = some (.tup (.str s.kind :: r)) := by
  cases s with
  | source p b => obtain ⟨pa, e, _⟩ := h; exact ⟨_, e⟩
  | framed p b => obtain ⟨pa, e, _⟩ := h; exact ⟨_, e⟩
  | moved r d => exact ⟨_, h⟩
  | flipped b => exact ⟨_, h⟩
  | turned => exact ⟨_, h⟩
  | curved t dp => obtain ⟨pa, e, _⟩ := h; exact ⟨_, e⟩
theorem PicAt.keep {K : PySem.W.Frag} {H H' : Hp} {a : Addr} {p : Pic} (h : PicAt K H a p) (k : TupK H H') (i : InsK H H' (He.ga K "Picture")) : PicAt K H' a p := by
  obtain ⟨dx, t, e, q⟩ := h
  exact ⟨dx, t, i _ _ _ _ e, q.keep k⟩
theorem StgAt.keep {K : PySem.W.Frag} {H H' : Hp} {a : Addr} {of : Str} {s : Stg} (h : StgAt K H a of s) (k : TupK H H') (i : InsK H H' (He.ga K "Picture")) : StgAt K H' a of s := by
  cases s with
  | source p b => obtain ⟨pa, e, q⟩ := h; exact ⟨pa, k _ _ e, q.keep k i⟩
  | framed w b => obtain ⟨pa, e, q⟩ := h; exact ⟨pa, k _ _ e, k _ _ q⟩
  | moved r d => exact k _ _ h
  | flipped b => exact k _ _ h
  | turned => exact k _ _ h
  | curved t dp => obtain ⟨pa, e, q⟩ := h; exact ⟨pa, k _ _ e, k _ _ q⟩
/-- M holds no Picture -/
def NoPic (K : PySem.W.Frag) (M : Addr → Prop) (H : Hp) : Prop := ∀ b d t p, H b = some (.ins (He.ga K "Picture") d (picF t p)) → ¬ M b
theorem NoPic.no {K : PySem.W.Frag} {H : Hp} : NoPic K No H := fun _ _ _ _ _ z => z
theorem NoPic.insK {K : PySem.W.Frag} {T : List NTab} {M : Addr → Prop} {H H' : Hp} (n : NoPic K M H) (k : Kp T M H H') : InsK H H' (He.ga K "Picture") := fun b d t p e => k.ins e (n b d t p e)
theorem StgAt.kp {K : PySem.W.Frag} {T : List NTab} {M : Addr → Prop} {H H' : Hp} {a : Addr} {of : Str} {s : Stg} (h : StgAt K H a of s) (k : Kp T M H H') (n : NoPic K M H) : StgAt K H' a of s := h.keep k.tp (n.insK k)
theorem PicAt.kp {K : PySem.W.Frag} {T : List NTab} {M : Addr → Prop} {H H' : Hp} {a : Addr} {p : Pic} (h : PicAt K H a p) (k : Kp T M H H') (n : NoPic K M H) : PicAt K H' a p := h.keep k.tp (n.insK k)
theorem NoPic.lst {K : PySem.W.Frag} {H : Hp} {m : Addr} {xs : List V} (h : H m = some (.lst xs)) : NoPic K (On m) H := fun b d t p e z => by
  rw [z, h] at e
  cases e
theorem NoPic.dT {K : PySem.W.Frag} {H : Hp} {m : Addr} {xs : List (List Key × V)} (h : H m = some (.dT xs)) : NoPic K (On m) H := fun b d t p e z => by
  rw [z, h] at e
  cases e
theorem NoPic.dK {K : PySem.W.Frag} {H : Hp} {m : Addr} {xs : List (Key × V)} (h : H m = some (.dK xs)) : NoPic K (On m) H := fun b d t p e z => by
  rw [z, h] at e
  cases e
abbrev ShAt (H : Hp) (a : Addr) (n : Nat) (d : Int) : Prop := H a = some (.tup [.int n, .int d])
end K9

set_option maxHeartbeats 4000000
/-! Methods by what is held; stages' promises in general. -/
namespace K9
open PySem PySem.Spec PyProof.Rows L2 NdefX LamX
section
variable {X : Cx} {k j : Nat} {f C : Addr} {m : Str} {sp : Sp} {o e : Expr} {es : List Expr} {ta : TE} {t : TA} {pos apos : Pos} {pl : Sem Bool}
def tMet (C : Addr) (m : Str) (sp : Sp) (ta : TE) (t : TA) : TE := fun σ H Q => ta σ H fun x H1 => ∃ a dx fs, x = .ref a ∧ H1 a = some (.ins C dx fs) ∧ fs.lookup m = none ∧ t σ H1 fun vs H2 => sp (x :: vs) H2 Q E0
theorem tMet_eq : tMet C m sp ta t = tMeth C m sp [] E0 ta t := by
  funext σ H Q
  show ta σ H _ = ta σ H _
  refine congrArg _ ?_
  funext x H1
  simp only [List.append_nil]
theorem pe_hm0 (he : PE X o ta) (c : Cls X.K C) (hm : Meth X.K C m f) (F : Hd X.prog X.w X.K X.mg X.base k f sp) (hr : Room j X.A) (hk : k ≤ j := by omega)
    (ht : eval (.Call (.Attribute o m apos) [] [] pos) X.env = (do
      let ov ← eval o X.env
      standAt apos.atName
      let (f, first) ← holding [ov] (getMethod ov m pl)
      callWith pos f first (backTo pos (starEach [] X.env)) (backToKw pos (keywordEach [] X.env))) := by rfl) : PE X (.Call (.Attribute o m apos) [] [] pos) (tMet C m sp ta tNil) := by
  obtain ⟨fd, ps, F, kp, hb⟩ := F.ex
  rw [tMet_eq]
  exact pe_meth0 (CX := CX0) (pl := pl) he c hm F (hr.mono hk) hb .nil pass0 ht
theorem pe_hm (he : PE X o ta) (c : Cls X.K C) (hm : Meth X.K C m f) (F : Hd X.prog X.w X.K X.mg X.base k f sp) (hr : Room j X.A) (ha : PA X (e :: es) t) (hk : k ≤ j := by omega)
    (hst : starEach (e :: es) X.env = (false, eval e X.env) :: starEach es X.env := by rfl) (hpl : (backTo pos (starEach es X.env)).any (·.1) = false := by rfl)
    (ht : eval (.Call (.Attribute o m apos) (e :: es) [] pos) X.env = (do
      let ov ← eval o X.env
      standAt apos.atName
      let (f, first) ← holding [ov] (getMethod ov m pl)
      callWith pos f first (backTo pos (starEach (e :: es) X.env)) (backToKw pos (keywordEach [] X.env))) := by rfl) : PE X (.Call (.Attribute o m apos) (e :: es) [] pos) (tMet C m sp ta t) := by
  obtain ⟨fd, ps, F, kp, hb⟩ := F.ex
  rw [tMet_eq]
  exact pe_meth (CX := CX0) (pl := pl) he c hm F (hr.mono hk) hb .nil pass0 ha hst hpl ht
end
/-! ### ChOk says one number of planes, one depth -/
theorem ChOk.det : ∀ {l : List Stg} {n m : Nat} {d e : Int}, ChOk l n d → ChOk l m e → n = m ∧ d = e
  | .source p b :: r, n, m, d, e, h1, h2 => by
    obtain ⟨_, _, _, a1, a2⟩ := h1
    obtain ⟨_, _, _, b1, b2⟩ := h2
    exact ⟨a1.trans b1.symm, a2.trans b2.symm⟩
  | .framed w b :: r, n, m, d, e, h1, h2 => ChOk.det (l := r) h1.1 h2.1
  | .moved a c :: r, n, m, d, e, h1, h2 => ChOk.det (l := r) h1.1 h2.1
  | .flipped _ :: r, n, m, d, e, h1, h2 => ChOk.det (l := r) h1 h2
  | .turned :: r, n, m, d, e, h1, h2 => ChOk.det (l := r) h1 h2
  | .curved t dp :: r, n, m, d, e, h1, h2 => by
    obtain ⟨d0, h1, T1⟩ := h1
    obtain ⟨e0, h2, T2⟩ := h2
    obtain ⟨a, b⟩ := ChOk.det (l := r) h1 h2
    refine ⟨a, ?_⟩
    rw [T1.bd, T2.bd, b]
theorem ChOk.bd {s : Stg} {r : List Stg} {n : Nat} {d : Int} {of : Win} {b : Bd} (h : ChOk (.framed of b :: r) n d) : BdOk b 65535 := fun n e => by
  have h1 := h.2.2 n e
  have h2 := (ChOk.depth h).2
  omega
theorem ChOk.ne {l : List Stg} {n : Nat} {d : Int} (h : ChOk l n d) : l ≠ [] := fun z => by
  rw [z] at h
  exact h
/-! ### promises -/
section
variable (P : Program) (w : World) (K : PySem.W.Frag) (mg : Str → Option Value) (base : Heap) (T : List NTab)
/-- is_..: the stage's form -/
def spForm (g : Stg → Prop) : Sp := fun vs H Q _ => ∃ sa of s below n d, g s ∧ vs = [.ref sa] ∧ StgAt K H sa of s ∧ ChOk (s :: below) n d ∧ ∀ H', Kp T No H H' → Q (.bl true) H'
/-- the shapes handed in -/
def ShsAt (H : Hp) (shs : Addr) (below : List Stg) : Prop := (below = [] ∧ H shs = some (.lst [])) ∨ ∃ sh0 n0 d0, H shs = some (.lst [.ref sh0]) ∧ ChOk below n0 d0 ∧ ShAt H sh0 n0 d0
/-- shape_of_.. -/
def spShape (g : Stg → Prop) : Sp := fun vs H Q _ => ∃ sa shs of s below n d, g s ∧ vs = [.ref sa, .ref shs] ∧ StgAt K H sa of s ∧ ChOk (s :: below) n d ∧ ShsAt H shs below ∧ ∀ H' sh, Kp T No H H' → ShAt H' sh n d → Q (.ref sh) H'
/-- what look is to tell -/
def LookOk (M : Addr → Prop) (spl : Addr → NF → Sp) (PG : Hp → Prop) (f : Addr) (F : NF) (below : List Stg) (p : Nat) (H : Hp) : Prop := below ≠ [] → ∀ H1 u v Q, Kp T No H H1 → (∀ H2, Kp T M H1 H2 → PG H2 → Q (.int (val below u v p)) H2) → spl f F [.int 0, .int u, .int v, .int p] H1 Q E0
/-- tell_.. -/
def spTell (M : Addr → Prop) (spl : Addr → NF → Sp) (g : Stg → Prop) : Sp := fun vs H Q _ => ∃ (sa : Addr) (sh : V) (f : Addr) (F : NF) (x y : Int) (p : Nat) (of : Str) (s : Stg) (below : List Stg) (n : Nat) (d : Int) (PG : Hp → Prop), g s ∧ vs = [.ref sa, sh, .ref f, .int x, .int y, .int p] ∧ H f = some (FnO f F) ∧ (∀ H1, Kp T No H H1 → H1 f = some (FnO f F)) ∧ StgAt K H sa of s ∧ NoPic K M H ∧ ChOk (s :: below) n d ∧ p < n ∧ (∀ H', Kp T No H H' → PG H') ∧ LookOk T M spl PG f F below p H ∧
  ∀ H', Kp T M H H' → PG H' → Q (.int (val (s :: below) x y p)) H'
end
abbrev gSrc (s : Stg) : Prop := ∃ p b, s = .source p b
abbrev gFra (s : Stg) : Prop := ∃ p b, s = .framed p b
abbrev gMov (s : Stg) : Prop := ∃ p b, s = .moved p b
abbrev gFli (s : Stg) : Prop := ∃ b, s = .flipped b
abbrev gTur (s : Stg) : Prop := s = .turned
abbrev gCur (s : Stg) : Prop := ∃ p b, s = .curved p b
end K9

set_option maxHeartbeats 4000000
namespace K9
open PySem PySem.Spec PyProof.Rows L2 NdefX LamX
theorem ne_of_nones {H : Hp} {a b : Addr} {o : HO} (h : H a = some o) (n : H b = none) : a ≠ b := ne_of_none h n
section
variable {P : Program} {w : World} {K : PySem.W.Frag} {mg : Str → Option Value} {base : Heap} {T : List NTab} {M : Addr → Prop}
def spFolded (T : List NTab) : Sp := fun vs H Q _ => ∃ b a win x y, vs = [bdV b, .ref a, .int x, .int y] ∧ WinAt H a win ∧ WinOk win ∧ (back b win x y = none → Q .non H) ∧ ∀ c, back b win x y = some c → ∀ t, H t = none → Q (.ref t) (upd H t (.tup [.int c.1, .int c.2]))
theorem bd_str (b : Bd) (H : Hp) (Q : VK) (q1 : ∀ n, b = .num n → Q (.bl false) H) (q2 : b.isNum = false → Q (.bl true) H) : rIsi K [bdV b, .ty "str"] H Q := by
  cases b with
  | num n => exact isi (ty_int n) k_is (q1 n rfl)
  | near => exact isi (ty_str _) k_ss (q2 rfl)
  | wrapped => exact isi (ty_str _) k_ss (q2 rfl)
  | mirrored => exact isi (ty_str _) k_ss (q2 rfl)
theorem ok_folded (X : Tx w K mg) : Hd P w K mg base 2 (He.ga K "folded") (spFolded T) := by
  refine mk_hd X.F_folded sc_folded (fun _ _ _ _ ⟨_, _, _, _, _, e, _⟩ => by rw [e]; rfl) (fun cdv A outer s H vs Q E hr h => ?_)
  obtain ⟨b, a, win, x, y, rfl, hw, ok, q0, q⟩ := h
  have nd := sc_folded.nd
  refine ⟨_, pss_cons (ps_if (pt_val (pe_h (ok_lies X) hr X.g_lies_in (pa_cons (pv 1) (pa_cons (pv 2) (pa_cons (pv 3) pa_nil))))) (pss_one (ps_ret (pe_tup (pa_cons (pv 2) (pa_cons (pv 3) pa_nil))))) pss_nil)
    (pss_cons (ps_if (pt_not (pt_val (pe_is X.f_isinstance X.f_str (pv 0) bb_str))) (pss_one (ps_ret pe_non)) pss_nil)
    (pss_cons (ps_asg (pv 1) (pg_tup rfl (pgs_cons (pg_name (i := 4) nd rfl (.inl rfl)) (pgs_cons (pg_name (i := 5) nd rfl (.inl rfl)) (pgs_cons (pg_name (i := 6) nd rfl (.inl rfl)) (pgs_cons (pg_name (i := 7) nd rfl (.inl rfl)) pgs_nil))))))
    (pss_one (ps_ret (pe_tup (pa_cons (pe_h (ok_one X) hr X.g_folded_one (pa_cons (pv 0) (pa_cons (pv 4) (pa_cons (pv 6) (pa_cons (pv 2) pa_nil))))) (pa_cons (pe_h (ok_one X) hr X.g_folded_one (pa_cons (pv 0) (pa_cons (pv 5) (pa_cons (pv 7) (pa_cons (pv 3) pa_nil))))) pa_nil))))))), ?_⟩
  refine ⟨_, rfl, _, rfl, _, rfl, a, win, x, y, rfl, hw, _, rfl, iteD (fun h1 => ?_) fun h1 => ?_⟩
  · refine ⟨_, rfl, _, rfl, small_tup (by show (2 : Nat) ≤ 1000; decide), fun t ht => q (x, y) ?_ t ht⟩
    unfold back
    rw [if_pos h1]
  refine ⟨_, rfl, bd_str b H _ (fun n eb => ⟨_, rfl, iteT (q0 ?_)⟩) fun eb => ⟨_, rfl, iteF ?_⟩⟩
  · unfold back
    rw [if_neg h1, eb]
    rfl
  refine ⟨_, rfl, a, _, rfl, SqT.of hw, rfl, _, _, rfl, _, _, rfl, _, _, rfl, _, _, rfl, rfl, ?_⟩
  refine ⟨_, rfl, _, rfl, _, rfl, _, rfl, b, _, _, _, rfl, eb, ok.ow.1, ok.ow.2, ?_⟩
  refine ⟨_, rfl, _, rfl, _, rfl, _, rfl, b, _, _, _, rfl, eb, ok.oh.1, ok.oh.2, ?_⟩
  refine ⟨small_tup (by show (2 : Nat) ≤ 1000; decide), fun t ht => q (_, _) ?_ t ht⟩
  unfold back
  rw [if_neg h1, eb]
  rfl
def spFit : Sp := fun vs H Q _ => ∃ b d, vs = [bdV b, .int d] ∧ BdOk b d ∧ Q .non H
theorem ok_fit (X : Tx w K mg) : Hd P w K mg base 1 (He.ga K "must_fit_border") spFit := by
  refine mk_hd X.F_must_fit_border sc_must_fit_border (fun _ _ _ _ ⟨_, _, e, _⟩ => by rw [e]; rfl) (fun cdv A outer s H vs Q E hr h => ?_)
  obtain ⟨b, d, rfl, hb, q⟩ := h
  refine ⟨_, pss_one (ps_if (PW.pt (pw_and (pt_not (pt_val (pe_is X.f_isinstance X.f_str (pv 0) bb_str))) (pw_and1 (pt_cmpR op_gt (pv 0) (pv 1) (nomark _))))) (pss_one ps_never) pss_nil), ?_⟩
  refine ⟨_, rfl, bd_str b H _ (fun n eb => ⟨_, rfl, iteT ?_⟩) fun eb => ⟨_, rfl, iteF q⟩⟩
  subst eb
  refine ⟨_, rfl, _, rfl, _, _, rfl, rfl, _, rfl, iteD (fun z => ?_) fun _ => q⟩
  have := (hb n rfl).2
  omega
/-- a Picture by isinstance -/
theorem ty_pic (X : Tx w K mg) {H : Hp} {a : Addr} {p : Pic} (h : PicAt K H a p) : TyX K H (.ref a) (.ref (He.ga K "Picture")) := by
  obtain ⟨dx, t, e, _⟩ := h
  obtain ⟨b1, b2⟩ := He.ba X.isa
  obtain ⟨b3, b4⟩ := He.ba b2
  obtain ⟨b5, b6⟩ := He.ba b4
  obtain ⟨b7, b8⟩ := He.ba b6
  exact .base (.ins e X.c_Picture (of_decide_eq_true b1) (of_decide_eq_true b3) (of_decide_eq_true b5) (of_decide_eq_true b7))
theorem kit_pic (X : Tx w K mg) : PySem.W.kitOne K (.ref (He.ga K "Picture")) (.ref (He.ga K "Picture")) = some true := by
  obtain ⟨b1, b2⟩ := He.ba X.isa
  obtain ⟨b3, b4⟩ := He.ba b2
  obtain ⟨b5, b6⟩ := He.ba b4
  obtain ⟨b7, b8⟩ := He.ba b6
  exact of_decide_eq_true b8
theorem ok_is_source (X : Tx w K mg) : Hd P w K mg base 4 (He.ga K "is_source") (spForm K T gSrc) := by
  refine mk_hd X.F_is_source sc_is_source (fun _ _ _ _ ⟨_, _, _, _, _, _, _, e, _⟩ => by rw [e]; rfl) (fun cdv A outer s H vs Q E hr h => ?_)
  obtain ⟨sa, of, st, below, n, d, ⟨pic, b, rfl⟩, rfl, ⟨pa, hs, hp⟩, ok, q⟩ := h
  refine ⟨_, pss_one (ps_ret (pe_and (pe_callB call_isi (by rfl) X.f_isinstance PyProof.Rows.boot_isinstance (pa_cons (pe_ix ix_tup (pv 0) pe_int (fun _ _ => rfl)) (pa_cons (pe_gf X.g_Picture) pa_nil)))
    (pe_one (pe_h (ok_border X) hr X.g_is_border (pa_cons (pe_ix ix_tup (pv 0) pe_int (fun _ _ => rfl)) pa_nil))))), ?_⟩
  refine ⟨_, rfl, _, _, _, _, rfl, rfl, SqT.of hs, atI_nat (j := 1) rfl, _, _, _, _, true, rfl, .own _, ty_pic X hp, kit_pic X, _, rfl, iteT ?_⟩
  refine ⟨_, rfl, _, _, _, _, rfl, rfl, SqT.of hs, atI_nat (j := 2) rfl, b, rfl, fun n e => ?_, q H .refl⟩
  have h1 := ok.2.2.1 n e
  have h2 := ok.2.1.d1
  omega
theorem ok_shape_of_source (X : Tx w K mg) : Hd P w K mg base 2 (He.ga K "shape_of_source") (spShape K T gSrc) := by
  refine mk_hd X.F_shape_of_source sc_shape_of_source (fun _ _ _ _ ⟨_, _, _, _, _, _, _, _, e, _⟩ => by rw [e]; rfl) (fun cdv A outer s H vs Q E hr h => ?_)
  obtain ⟨sa, shs, of, st, below, n, d, ⟨pic, b, rfl⟩, rfl, ⟨pa, hs, dx, t, hp, hpl⟩, ok, _, q⟩ := h
  obtain ⟨rfl, pok, bok, rfl, rfl⟩ := ok
  refine ⟨_, pss_cons (ps_expr (pe_h (ok_fit X) hr X.g_must_fit_border (pa_cons (pe_ix ix_tup (pv 0) pe_int (fun _ _ => rfl)) (pa_cons (pe_fld (pe_ix ix_tup (pv 0) pe_int (fun _ _ => rfl)) rfl) pa_nil))))
    (pss_one (ps_ret (pe_tup (pa_cons (pe_callB call_len_seq (by rfl) X.f_len bb_len (pa_cons (pe_fld (pe_ix ix_tup (pv 0) pe_int (fun _ _ => rfl)) rfl) pa_nil)) (pa_cons (pe_fld (pe_ix ix_tup (pv 0) pe_int (fun _ _ => rfl)) rfl) pa_nil))))), ?_⟩
  refine ⟨_, rfl, _, _, _, _, rfl, rfl, SqT.of hs, atI_nat (j := 2) rfl, ?_⟩
  refine ⟨_, rfl, _, _, _, _, rfl, rfl, SqT.of hs, atI_nat (j := 1) rfl, ?_⟩
  refine ⟨_, _, _, _, _, rfl, hp, X.c_Picture, X.n_Picture_depth, picF_depth _ _, b, _, rfl, bok, ?_⟩
  refine ⟨_, rfl, _, _, _, _, rfl, rfl, SqT.of hs, atI_nat (j := 1) rfl, ?_⟩
  refine ⟨_, _, _, _, _, rfl, hp, X.c_Picture, X.n_Picture_planes, picF_planes _ _, ?_⟩
  obtain ⟨rs, hpt, ha⟩ := hpl
  refine ⟨_, _, rfl, .inr (SqT.of hpt), ?_⟩
  refine ⟨_, rfl, _, _, _, _, rfl, rfl, SqT.of hs, atI_nat (j := 1) rfl, ?_⟩
  refine ⟨_, _, _, _, _, rfl, hp, X.c_Picture, X.n_Picture_depth, picF_depth _ _, ?_⟩
  refine ⟨small_tup (by show (2 : Nat) ≤ 1000; decide), fun u hu => q _ u (.new hu) ?_⟩
  rw [List.length_map, ha.len]
  exact upd_same
end
end K9

set_option maxHeartbeats 4000000
namespace K9
open PySem PySem.Spec PyProof.Rows L2 NdefX LamX
/-! ### the greatest int of a tuple -/
section
variable {prog : Program} {w : World} {A : Around} {E : Value → Shared → Prop} {s : Shared} {l : Addr} {ns : List Int}
theorem max_tup {its : List Value} {Q : Value → Shared → Prop} (hh : A.handled = none) (hl : s.heap.IsTuple l its.toArray) (hi : IntsAre its ns) (hne : 0 < ns.length)
    (h : ∀ h' tk g t', (∀ b o, s.heap.get? b = some o → h'.get? b = some o) → g ∈ ns → Q (.int g t') { s with heap := h', toks := tk }) : wpAny (model prog w) A (call (.builtin "max") [.ref l]) Q E s := by
  obtain ⟨xs, e⟩ := hi.allInts.items
  have hn : numsOf (intItems xs).toList = ns := by rw [← e]; exact hi.numsOf
  rw [nums_intItems] at hn
  subst hn
  rw [e] at hl
  have hsz : 0 < xs.size := by simpa using hne
  have hlt : l < s.heap.objs.size := by obtain ⟨_, q, _⟩ := hl; exact Heap.lt_size q
  refine call_max_walk (wpAny_pyIter_tuple hl ?_)
  refine ⟨_, [_, l], [_], _, _, _, _, rfl, Walks.tuple (A := A.in1) hh s.heap.objs.size l (Nat.ne_of_lt hlt) (intItems xs), ⟨⟨_, Heap.get?_push_size _ rfl, rfl, rfl⟩, hl.push _⟩, fun b hb => ?_, by simpa [intItems] using hsz, CmpOf.ints_gt (numAt xs) (fun _ _ => intItems_at), fun v h' tk hP hk => ?_⟩
  · show b < (s.heap.push _).objs.size
    rw [Heap.size_push]
    rcases List.mem_cons.mp hb with rfl | hb
    · exact Nat.lt_succ_self _
    · rcases List.mem_cons.mp hb with rfl | hb
      · exact Nat.lt_succ_of_lt hlt
      · cases hb
  · obtain ⟨t, rfl⟩ := intItems_at hP
    have hsz2 : (intItems xs).size - 1 = xs.size - 1 := by simp [intItems]
    rw [hsz2]
    obtain ⟨h1, h2⟩ := argBest_gt (numAt xs) (xs.size - 1)
    refine h h' tk _ t (fun b o q => hk b o (fun hm => ?_) (Heap.get?_push_of_some _ q)) ?_
    · rcases List.mem_cons.mp hm with e1 | hm
      · exact absurd (e1 ▸ Heap.lt_size q) (Nat.lt_irrefl _)
      · cases hm
    · rw [numAt_eq]
      exact PySem.getD_mem (by rw [List.length_map, Array.length_toList]; omega)
end
def rMaxT (K : PySem.W.Frag) : List V → Hp → VK → Prop := fun vs H Q => ∃ (a : Addr) (ns : List Int), vs = [V.ref a] ∧ SqT K H a (ns.map V.int) ∧ 0 < ns.length ∧ ∀ m, m ∈ ns → Q (.int m) H
theorem cr_maxT {X : Cx} (hc : X.calm = true) : CallR X (.builtin "max") (rMaxT X.K) := by
  intro pins s σ H vs us Q I r h
  obtain ⟨a, ns, rfl, hs, hne, q⟩ := h
  obtain ⟨its, rv, ht, _⟩ := I.tuple hs
  rw [Vals.ref1 r]
  exact max_tup (I.ok.hd hc) ht rv.ints hne fun h' tk m t' hk h1 => ⟨.int _, H, I.kept hk, ⟨_, rfl⟩, q m h1⟩
end K9

set_option maxHeartbeats 4000000
namespace K9
open PySem PySem.Spec PyProof.Rows L2 NdefX LamX
theorem atI_int {α : Type} {xs : List α} {i : Int} {v : α} (h0 : 0 ≤ i) (h : xs[i.toNat]? = some v) : atI xs i = some v := by
  have e := atI_nat h
  rw [Int.toNat_of_nonneg h0] at e
  exact e
theorem map_at {α β : Type} {f : α → β} {xs : List α} {i : Nat} {x : α} (h : xs[i]? = some x) : (xs.map f)[i]? = some (f x) := by
  rw [List.getElem?_map, h]
  rfl
theorem small2 : (2 : Nat) ≤ sizeLine := small_tup (by decide)
section
variable {P : Program} {w : World} {K : PySem.W.Frag} {mg : Str → Option Value} {base : Heap} {T : List NTab} {M : Addr → Prop} {spl : Addr → NF → Sp} {kl : Nat}
def spWin (K : PySem.W.Frag) : Sp := fun vs H Q _ => ∃ pa p, vs = [.ref pa] ∧ PicAt K H pa p ∧ PicOk p ∧ ∀ t, H t = none → Q (.ref t) (upd H t (.tup [.int p.win.l, .int p.win.u, .int p.win.w, .int p.win.h]))
theorem PlanesAt.first {H : Hp} {a : Addr} {ps : List (List (List Int))} (h : PlanesAt H a ps) (h1 : 1 ≤ ps.length) : ∃ (rs : List Addr) (r0 : Addr), H a = some (.tup (rs.map V.ref)) ∧ rs[0]? = some r0 ∧ PlaneAt H r0 (ps.headD []) := by
  obtain ⟨rs, e, q⟩ := h
  cases ps with
  | nil => exact absurd h1 (by decide)
  | cons p r =>
    obtain ⟨a0, e0, f⟩ := q.get (i := 0) (x := p) rfl
    exact ⟨rs, a0, e, e0, f⟩
theorem PlaneAt.first {H : Hp} {a : Addr} {pl : List (List Int)} (h : PlaneAt H a pl) (h1 : 1 ≤ pl.length) : ∃ (rs : List Addr) (r0 : Addr), H a = some (.tup (rs.map V.ref)) ∧ rs.length = pl.length ∧ rs[0]? = some r0 ∧ RowAt H r0 (pl.headD []) := by
  obtain ⟨rs, e, q⟩ := h
  cases pl with
  | nil => exact absurd h1 (by decide)
  | cons p r =>
    obtain ⟨a0, e0, f⟩ := q.get (i := 0) (x := p) rfl
    exact ⟨rs, a0, e, q.len, e0, f⟩
theorem ok_window (X : Tx w K mg) : Hd P w K mg base 1 (He.ma K (He.ga K "Picture") "window") (spWin K) := by
  refine mk_hd X.F_Picture_window sc_Picture_window (fun _ _ _ _ ⟨_, _, e, _⟩ => by rw [e]; rfl) (fun cdv A outer s H vs Q E hr h => ?_)
  obtain ⟨pa, p, rfl, ⟨dx, t, hp, hpl⟩, ok, q⟩ := h
  have nd := sc_Picture_window.nd
  refine ⟨_, pss_cons (ps_set (i := 1) nd rfl (.inl rfl) (pe_ix ix_tup (pe_fld (pv 0) rfl) pe_int (fun _ _ => rfl)))
    (pss_one (ps_ret (pe_tup (pa_cons (pe_fld (pv 0) rfl) (pa_cons (pe_fld (pv 0) rfl) (pa_cons (pe_callB call_len_seq (by rfl) X.f_len bb_len (pa_cons (pe_ix ix_tup (pv 1) pe_int (fun _ _ => rfl)) pa_nil)) (pa_cons (pe_callB call_len_seq (by rfl) X.f_len bb_len (pa_cons (pv 1) pa_nil)) pa_nil))))))), ?_⟩
  obtain ⟨rs, r0, ht, e0, hpl0⟩ := hpl.first ok.n0
  obtain ⟨rs2, r2, ht2, el2, e2, hrow⟩ := hpl0.first ok.h0
  refine ⟨_, rfl, _, _, _, _, _, rfl, hp, X.c_Picture, X.n_Picture_planes, picF_planes _ _, ?_⟩
  refine ⟨_, _, _, _, rfl, rfl, SqT.of ht, atI_nat (j := 0) (map_at e0), ?_⟩
  refine ⟨_, rfl, _, _, _, _, _, rfl, hp, X.c_Picture, X.n_Picture_left, picF_left _ _, ?_⟩
  refine ⟨_, rfl, _, _, _, _, _, rfl, hp, X.c_Picture, X.n_Picture_up, picF_up _ _, ?_⟩
  refine ⟨_, rfl, _, _, _, _, rfl, rfl, SqT.of ht2, atI_nat (j := 0) (map_at e2), ?_⟩
  refine ⟨_, _, rfl, .inr (SqT.of hrow), ?_⟩
  refine ⟨_, rfl, _, _, rfl, .inr (SqT.of ht2), ?_⟩
  refine ⟨small_tup (by show (4 : Nat) ≤ 1000; decide), fun u hu => ?_⟩
  rw [List.length_map, List.length_map, el2]
  exact q u hu
theorem ok_tell_source (X : Tx w K mg) : Hd P w K mg base 3 (He.ga K "tell_source") (spTell K T M spl gSrc) := by
  refine mk_hd X.F_tell_source sc_tell_source (fun _ _ _ _ ⟨_, _, _, _, _, _, _, _, _, _, _, _, _, _, e, _⟩ => by rw [e]; rfl) (fun cdv A outer s H vs Q E hr h => ?_)
  obtain ⟨sa, sh, f, F, x, y, p, of, st, below, n, d, PG, ⟨pic, b, rfl⟩, rfl, _, _, ⟨pa, hs, hp⟩, _, ok, hpn, pg, _, q⟩ := h
  obtain ⟨rfl, pok, bok, rfl, rfl⟩ := ok
  have nd := sc_tell_source.nd
  have hp0 := hp
  obtain ⟨dx, t, hpi, hpl⟩ := hp0
  refine ⟨_, pss_cons (ps_set (i := 6) nd rfl (.inl rfl) (pe_ix ix_tup (pv 0) pe_int (fun _ _ => rfl)))
    (pss_cons (ps_set (i := 7) nd rfl (.inl rfl) (pe_h (ok_folded (T := T) X) hr X.g_folded (pa_cons (pe_ix ix_tup (pv 0) pe_int (fun _ _ => rfl)) (pa_cons (pe_hm0 (pv 6) X.c_Picture X.me_Picture_window (ok_window X) hr) (pa_cons (pv 3) (pa_cons (pv 4) pa_nil))))))
    (pss_cons (ps_if (pt_cmpR op_isN (pv 7) pe_non (nomark _)) (pss_one (ps_ret (pe_ix ix_tup (pv 0) pe_int (fun _ _ => rfl)))) pss_nil)
    (pss_one (ps_ret (pe_ix ix_tup (pe_ix ix_tup (pe_ix ix_tup (pe_fld (pv 6) rfl) (pv 5) (fun _ _ => rfl)) (pe_op op_sub (pe_ix ix_tup (pv 7) pe_int (fun _ _ => rfl)) (pe_fld (pv 6) rfl)) (fun _ _ => rfl)) (pe_op op_sub (pe_ix ix_tup (pv 7) pe_int (fun _ _ => rfl)) (pe_fld (pv 6) rfl)) (fun _ _ => rfl)))))), ?_⟩
  refine ⟨_, rfl, _, _, _, _, rfl, rfl, SqT.of hs, atI_nat (j := 1) rfl, ?_⟩
  refine ⟨_, rfl, _, _, _, _, rfl, rfl, SqT.of hs, atI_nat (j := 2) rfl, ?_⟩
  refine ⟨_, rfl, pa, dx, _, rfl, hpi, picF_no _ _ (by decide +kernel), pa, pic, rfl, ⟨dx, t, hpi, hpl⟩, pok, fun wa hwa => ?_⟩
  have k1 : Kp T No H (upd H wa (.tup [.int pic.win.l, .int pic.win.u, .int pic.win.w, .int pic.win.h])) := .new hwa
  refine ⟨_, rfl, _, rfl, b, wa, pic.win, x, y, rfl, upd_same, pok.win, fun hb => ?_, fun c hb u hu => ?_⟩
  · refine ⟨_, rfl, rfl, _, rfl, iteT ?_⟩
    refine ⟨_, rfl, _, _, _, _, rfl, rfl, SqT.of (k1.tp _ _ hs), atI_nat (j := 2) rfl, ?_⟩
    have q := q _ k1.any (pg _ k1)
    rw [show val [.source pic b] x y p = b.n by simp only [val, hb]] at q
    obtain ⟨n, rfl⟩ := back_none hb
    exact q
  · have k2 := k1.trN (.new (o := .tup [.int c.1, .int c.2]) hu)
    refine ⟨_, rfl, rfl, _, rfl, iteD (fun z => nomatch z) fun _ => ?_⟩
    have hin := back_in pok.win.ow.1 pok.win.oh.1 hb
    obtain ⟨plane, row, e1, e2, e3⟩ := Pic.at_mem pok hpn hin
    obtain ⟨rs, ht, ha⟩ := hpl
    obtain ⟨r1, er1, rs1, ht1, ha1⟩ := ha.get e1
    obtain ⟨r2, er2, hr2⟩ := ha1.get e2
    have hpi2 := k2.ins hpi (fun z => z)
    refine ⟨_, rfl, _, _, _, _, _, rfl, hpi2, X.c_Picture, X.n_Picture_planes, picF_planes _ _, ?_⟩
    refine ⟨_, rfl, _, _, _, _, rfl, rfl, SqT.of (k2.tp _ _ ht), atI_nat (j := p) (map_at er1), ?_⟩
    refine ⟨_, rfl, _, _, _, _, rfl, rfl, SqT.of upd_same, atI_nat (j := 1) rfl, ?_⟩
    refine ⟨_, rfl, _, _, _, _, _, rfl, hpi2, X.c_Picture, X.n_Picture_up, picF_up _ _, ?_⟩
    have hin1 : pic.left ≤ c.1 := hin.1.1
    have hin2 : pic.up ≤ c.2 := hin.2.1
    refine ⟨_, _, rfl, rfl, _, _, _, _, rfl, rfl, SqT.of (k2.tp _ _ ht1), atI_int (by omega) (map_at er2), ?_⟩
    refine ⟨_, rfl, _, _, _, _, rfl, rfl, SqT.of upd_same, atI_nat (j := 0) rfl, ?_⟩
    refine ⟨_, rfl, _, _, _, _, _, rfl, hpi2, X.c_Picture, X.n_Picture_left, picF_left _ _, ?_⟩
    refine ⟨_, _, rfl, rfl, _, _, _, _, rfl, rfl, SqT.of (k2.tp _ _ hr2), atI_int (by omega) (map_at e3), ?_⟩
    have q := q _ k2.any (pg _ k2)
    rw [show val [.source pic b] x y p = pic.at_ p c.1 c.2 by simp only [val, hb]] at q
    exact q
theorem ok_is_framed (X : Tx w K mg) : Hd P w K mg base 4 (He.ga K "is_framed") (spForm K T gFra) := by
  refine mk_hd X.F_is_framed sc_is_framed (fun _ _ _ _ ⟨_, _, _, _, _, _, _, e, _⟩ => by rw [e]; rfl) (fun cdv A outer s H vs Q E hr h => ?_)
  obtain ⟨sa, of, st, below, n, d, ⟨win, b, rfl⟩, rfl, ⟨wa, hs, hw⟩, ok, q⟩ := h
  refine ⟨_, pss_one (ps_ret (pe_and (pe_h (ok_is_win X) hr X.g_is_window (pa_cons (pe_ix ix_tup (pv 0) pe_int (fun _ _ => rfl)) pa_nil))
    (pe_one (pe_h (ok_border X) hr X.g_is_border (pa_cons (pe_ix ix_tup (pv 0) pe_int (fun _ _ => rfl)) pa_nil))))), ?_⟩
  refine ⟨_, rfl, _, _, _, _, rfl, rfl, SqT.of hs, atI_nat (j := 2) rfl, wa, win, rfl, hw, ok.2.1, _, rfl, iteT ?_⟩
  exact ⟨_, rfl, _, _, _, _, rfl, rfl, SqT.of hs, atI_nat (j := 3) rfl, b, rfl, ChOk.bd (s := .turned) ok, q H .refl⟩
theorem ok_shape_of_framed (X : Tx w K mg) : Hd P w K mg base 2 (He.ga K "shape_of_framed") (spShape K T gFra) := by
  refine mk_hd X.F_shape_of_framed sc_shape_of_framed (fun _ _ _ _ ⟨_, _, _, _, _, _, _, _, e, _⟩ => by rw [e]; rfl) (fun cdv A outer s H vs Q E hr h => ?_)
  obtain ⟨sa, shs, of, st, below, n, d, ⟨win, b, rfl⟩, rfl, ⟨wa, hs, hw⟩, ok, hsh, q⟩ := h
  rcases hsh with ⟨rfl, _⟩ | ⟨sh0, n0, d0, hl, ok0, hsh0⟩
  · exact absurd ok.1 id
  obtain ⟨rfl, rfl⟩ := ChOk.det ok0 ok.1
  refine ⟨_, pss_cons (ps_expr (pe_h (ok_fit X) hr X.g_must_fit_border (pa_cons (pe_ix ix_tup (pv 0) pe_int (fun _ _ => rfl)) (pa_cons (pe_ix ix_tup (pe_ix ix_list (pv 1) pe_int (fun _ _ => rfl)) pe_int (fun _ _ => rfl)) pa_nil))))
    (pss_one (ps_ret (pe_ix ix_list (pv 1) pe_int (fun _ _ => rfl)))), ?_⟩
  refine ⟨_, rfl, _, _, _, _, rfl, rfl, SqT.of hs, atI_nat (j := 3) rfl, ?_⟩
  refine ⟨_, rfl, _, _, _, _, rfl, rfl, SqL.of hl, atI_nat (j := 0) rfl, ?_⟩
  refine ⟨_, _, _, _, rfl, rfl, SqT.of hsh0, atI_nat (j := 1) rfl, b, _, rfl, ok.2.2, ?_⟩
  exact ⟨_, rfl, _, _, _, _, rfl, rfl, SqL.of hl, atI_nat (j := 0) rfl, q H sh0 .refl hsh0⟩
theorem ok_tell_framed (X : Tx w K mg) (C : Cal P w K mg base kl spl) : Hd P w K mg base (kl + 3) (He.ga K "tell_framed") (spTell K T M spl gFra) := by
  refine mk_hd X.F_tell_framed sc_tell_framed (fun _ _ _ _ ⟨_, _, _, _, _, _, _, _, _, _, _, _, _, _, e, _⟩ => by rw [e]; rfl) (fun cdv A outer s H vs Q E hr h => ?_)
  obtain ⟨sa, sh, f, F, x, y, p, of, st, below, n, d, PG, ⟨win, b, rfl⟩, rfl, hf, hfk, ⟨wa, hs, hw⟩, _, ok, hpn, pg, lk, q⟩ := h
  obtain ⟨ok, wok, bok⟩ := ok
  have nd := sc_tell_framed.nd
  refine ⟨_, pss_cons (ps_set (i := 6) nd rfl (.inl rfl) (pe_h (ok_folded (T := T) X) hr X.g_folded (pa_cons (pe_ix ix_tup (pv 0) pe_int (fun _ _ => rfl)) (pa_cons (pe_ix ix_tup (pv 0) pe_int (fun _ _ => rfl)) (pa_cons (pv 3) (pa_cons (pv 4) pa_nil))))))
    (pss_one (ps_ret (pe_ifExp (pt_cmpR op_isN (pv 6) pe_non (nomark _)) (pe_ix ix_tup (pv 0) pe_int (fun _ _ => rfl))
      (pe_callF C hr (i := 2) rfl (.inl rfl) (pa_cons pe_int (pa_cons (pe_ix ix_tup (pv 6) pe_int (fun _ _ => rfl)) (pa_cons (pe_ix ix_tup (pv 6) pe_int (fun _ _ => rfl)) (pa_cons (pv 5) pa_nil)))))))), ?_⟩
  refine ⟨_, rfl, _, _, _, _, rfl, rfl, SqT.of hs, atI_nat (j := 3) rfl, ?_⟩
  refine ⟨_, rfl, _, _, _, _, rfl, rfl, SqT.of hs, atI_nat (j := 2) rfl, ?_⟩
  refine ⟨_, rfl, _, rfl, b, wa, win, x, y, rfl, hw, wok, fun hb => ?_, fun c hb u hu => ?_⟩
  · refine ⟨_, rfl, rfl, _, rfl, iteT ?_⟩
    refine ⟨_, rfl, _, _, _, _, rfl, rfl, SqT.of hs, atI_nat (j := 3) rfl, ?_⟩
    have q := q _ .refl (pg _ .refl)
    rw [show val (.framed win b :: below) x y p = b.n by simp only [val, hb]] at q
    obtain ⟨n, rfl⟩ := back_none hb
    exact q
  · have k1 : Kp T No H (upd H u (.tup [.int c.1, .int c.2])) := .new hu
    refine ⟨_, rfl, rfl, _, rfl, iteD (fun z => nomatch z) fun _ => ?_⟩
    refine ⟨f, F, rfl, hfk _ k1, _, rfl, _, _, _, _, rfl, rfl, SqT.of upd_same, atI_nat (j := 0) rfl, ?_⟩
    refine ⟨_, rfl, _, _, _, _, rfl, rfl, SqT.of upd_same, atI_nat (j := 1) rfl, _, rfl, hfk _ k1, ?_⟩
    refine lk ok.ne _ _ _ _ k1 fun H2 k2 g2 => ?_
    have q := q _ (k1.any.tr k2) g2
    rw [show val (.framed win b :: below) x y p = val below c.1 c.2 p by simp only [val, hb]] at q
    exact q
end
end K9

set_option maxHeartbeats 4000000
namespace K9
open PySem PySem.Spec PyProof.Rows L2 NdefX LamX
section
variable {P : Program} {w : World} {K : PySem.W.Frag} {mg : Str → Option Value} {base : Heap} {T : List NTab} {M : Addr → Prop} {spl : Addr → NF → Sp} {kl : Nat}
/-- the stages that keep their shape -/
abbrev gKeep (s : Stg) : Prop := gMov s ∨ gFli s ∨ gTur s
theorem ok_same_shape (X : Tx w K mg) : Hd P w K mg base 1 (He.ga K "same_shape") (spShape K T gKeep) := by
  refine mk_hd X.F_same_shape sc_same_shape (fun _ _ _ _ ⟨_, _, _, _, _, _, _, _, e, _⟩ => by rw [e]; rfl) (fun cdv A outer s H vs Q E hr h => ?_)
  obtain ⟨sa, shs, of, st, below, n, d, g, rfl, _, ok, hsh, q⟩ := h
  have ok : ChOk below n d := by
    rcases g with ⟨_, _, rfl⟩ | ⟨_, rfl⟩ | rfl
    · exact ok.1
    · exact ok
    · exact ok
  rcases hsh with ⟨rfl, _⟩ | ⟨sh0, n0, d0, hl, ok0, hsh0⟩
  · exact absurd ok id
  obtain ⟨rfl, rfl⟩ := ChOk.det ok0 ok
  refine ⟨_, pss_one (ps_ret (pe_ix ix_list (pv 1) pe_int (fun _ _ => rfl))), ?_⟩
  exact ⟨_, rfl, _, _, _, _, rfl, rfl, SqL.of hl, atI_nat (j := 0) rfl, q H sh0 .refl hsh0⟩
/-- where a moved, flipped, turned stage's cell stands -/
def place : Stg → Int → Int → Int × Int
  | .moved a d, x, y => (x - a, y - d)
  | .flipped true, x, y => (-x, y)
  | .flipped false, x, y => (x, -y)
  | .turned, x, y => (y, x)
  | _, x, y => (x, y)
theorem val_place {s : Stg} (g : gKeep s) (r : List Stg) (x y : Int) (p : Nat) : val (s :: r) x y p = val r (place s x y).1 (place s x y).2 p := by
  rcases g with ⟨_, _, rfl⟩ | ⟨b, rfl⟩ | rfl
  · rfl
  · cases b <;> rfl
  · rfl
def spPlace (K : PySem.W.Frag) (T : List NTab) (g : Stg → Prop) : Sp := fun vs H Q _ => ∃ sa of s x y, g s ∧ vs = [.ref sa, .int x, .int y] ∧ StgAt K H sa of s ∧ ∀ H' t, Kp T No H H' → H' t = some (.tup [.int (place s x y).1, .int (place s x y).2]) → Q (.ref t) H'
theorem ok_place_moved (X : Tx w K mg) : Hd P w K mg base 1 (He.ga K "place_of_moved") (spPlace K T gMov) := by
  refine mk_hd X.F_place_of_moved sc_place_of_moved (fun _ _ _ _ ⟨_, _, _, _, _, _, e, _⟩ => by rw [e]; rfl) (fun cdv A outer s H vs Q E hr h => ?_)
  obtain ⟨sa, of, st, x, y, ⟨a, d, rfl⟩, rfl, hs, q⟩ := h
  refine ⟨_, pss_one (ps_ret (pe_tup (pa_cons (pe_op op_sub (pv 1) (pe_ix ix_tup (pv 0) pe_int (fun _ _ => rfl))) (pa_cons (pe_op op_sub (pv 2) (pe_ix ix_tup (pv 0) pe_int (fun _ _ => rfl))) pa_nil)))), ?_⟩
  refine ⟨_, rfl, _, rfl, _, _, _, _, rfl, rfl, SqT.of hs, atI_nat (j := 2) rfl, _, _, rfl, rfl, ?_⟩
  refine ⟨_, rfl, _, rfl, _, _, _, _, rfl, rfl, SqT.of hs, atI_nat (j := 3) rfl, _, _, rfl, rfl, ?_⟩
  exact ⟨small2, fun t ht => q _ t (.new ht) upd_same⟩
theorem ok_place_turned (X : Tx w K mg) : Hd P w K mg base 1 (He.ga K "place_of_turned") (spPlace K T gTur) := by
  refine mk_hd X.F_place_of_turned sc_place_of_turned (fun _ _ _ _ ⟨_, _, _, _, _, _, e, _⟩ => by rw [e]; rfl) (fun cdv A outer s H vs Q E hr h => ?_)
  obtain ⟨sa, of, st, x, y, rfl, rfl, hs, q⟩ := h
  refine ⟨_, pss_one (ps_ret (pe_tup (pa_cons (pv 2) (pa_cons (pv 1) pa_nil)))), ?_⟩
  refine ⟨_, rfl, _, rfl, ?_⟩
  exact ⟨small2, fun t ht => q _ t (.new ht) upd_same⟩
theorem ok_place_flipped (X : Tx w K mg) : Hd P w K mg base 1 (He.ga K "place_of_flipped") (spPlace K T gFli) := by
  refine mk_hd X.F_place_of_flipped sc_place_of_flipped (fun _ _ _ _ ⟨_, _, _, _, _, _, e, _⟩ => by rw [e]; rfl) (fun cdv A outer s H vs Q E hr h => ?_)
  obtain ⟨sa, of, st, x, y, ⟨b, rfl⟩, rfl, hs, q⟩ := h
  refine ⟨_, pss_one (ps_ret (pe_ifExp (pt_val (pe_ix ix_tup (pv 0) pe_int (fun _ _ => rfl))) (pe_tup (pa_cons (pe_un un_neg (pv 1)) (pa_cons (pv 2) pa_nil))) (pe_tup (pa_cons (pv 1) (pa_cons (pe_un un_neg (pv 2)) pa_nil))))), ?_⟩
  refine ⟨_, rfl, _, _, _, _, rfl, rfl, SqT.of hs, atI_nat (j := 2) rfl, _, rfl, ?_⟩
  cases b with
  | true => exact iteT ⟨_, rfl, _, rfl, _, rfl, small2, fun t ht => q _ t (.new ht) upd_same⟩
  | false => exact iteF ⟨_, rfl, _, rfl, _, rfl, small2, fun t ht => q _ t (.new ht) upd_same⟩
theorem ok_tell_cell (X : Tx w K mg) (C : Cal P w K mg base kl spl) : Hd P w K mg base (kl + 2) (He.ga K "tell_cell") (spTell K T M spl gKeep) := by
  refine mk_hd X.F_tell_cell sc_tell_cell (fun _ _ _ _ ⟨_, _, _, _, _, _, _, _, _, _, _, _, _, _, e, _⟩ => by rw [e]; rfl) (fun cdv A outer s H vs Q E hr h => ?_)
  obtain ⟨sa, sh, f, F, x, y, p, of, st, below, n, d, PG, g, rfl, hf, hfk, hs, _, ok, hpn, pg, lk, q⟩ := h
  have nd := sc_tell_cell.nd
  refine ⟨_, pss_cons (ps_set (i := 6) nd rfl (.inl rfl) (pe_ix ix_kdict (pe_gf X.g_KINDS_OF_PLACE) (pe_ix ix_tup (pv 0) pe_int (fun _ _ => rfl)) (fun _ _ => rfl)))
    (pss_cons (ps_set (i := 7) nd rfl (.inl rfl) (pe_callV (k := 1) (i := 6) hr rfl (.inl rfl) (pa_cons (pv 0) (pa_cons (pv 3) (pa_cons (pv 4) pa_nil)))))
    (pss_one (ps_ret (pe_callF C hr (i := 2) rfl (.inl rfl) (pa_cons pe_int (pa_cons (pe_ix ix_tup (pv 7) pe_int (fun _ _ => rfl)) (pa_cons (pe_ix ix_tup (pv 7) pe_int (fun _ _ => rfl)) (pa_cons (pv 5) pa_nil)))))))), ?_⟩
  have fin : ∀ H1 t, Kp T No H H1 → H1 t = some (.tup [.int (place st x y).1, .int (place st x y).2]) → ∀ sl : L2.St, sl[2]? = some (some (.ref f)) → sl[5]? = some (some (.int p)) → sl[7]? = some (some (.ref t)) →
      tCallF 2 spl (tCons (tC (.int 0)) (tCons (tOp (rIxT K) (tVar 7) (tC (.int 0))) (tCons (tOp (rIxT K) (tVar 7) (tC (.int 1))) (tCons (tVar 5) tNil)))) sl H1 Q := fun H1 t k1 ht sl e2 e5 e7 => by
    refine ⟨f, F, e2, hfk _ k1, _, e7, _, _, _, _, rfl, rfl, SqT.of ht, atI_nat (j := 0) rfl, ?_⟩
    refine ⟨_, e7, _, _, _, _, rfl, rfl, SqT.of ht, atI_nat (j := 1) rfl, _, e5, hfk _ k1, ?_⟩
    have okb : ChOk below n d := by
      rcases g with ⟨_, _, rfl⟩ | ⟨_, rfl⟩ | rfl
      · exact ok.1
      · exact ok
      · exact ok
    refine lk okb.ne _ _ _ _ k1 fun H2 k2 g2 => ?_
    have q := q _ (k1.any.tr k2) g2
    rw [val_place g] at q
    exact q
  rcases g with ⟨a, b, rfl⟩ | ⟨b, rfl⟩ | rfl
  · refine ⟨_, rfl, _, _, _, _, rfl, rfl, SqT.of hs, atI_nat (j := 0) rfl, _, _, _, rfl, rfl, X.pla (y := "place_of_moved") (by simp), ?_⟩
    exact ⟨_, _, rfl, ok_place_moved X, _, rfl, _, rfl, _, rfl, sa, of, _, x, y, ⟨_, _, rfl⟩, rfl, hs, fun H1 t k1 ht => fin H1 t k1 ht _ rfl rfl rfl⟩
  · refine ⟨_, rfl, _, _, _, _, rfl, rfl, SqT.of hs, atI_nat (j := 0) rfl, _, _, _, rfl, rfl, X.pla (y := "place_of_flipped") (by simp), ?_⟩
    exact ⟨_, _, rfl, ok_place_flipped X, _, rfl, _, rfl, _, rfl, sa, of, _, x, y, ⟨_, rfl⟩, rfl, hs, fun H1 t k1 ht => fin H1 t k1 ht _ rfl rfl rfl⟩
  · refine ⟨_, rfl, _, _, _, _, rfl, rfl, SqT.of hs, atI_nat (j := 0) rfl, _, _, _, rfl, rfl, X.pla (y := "place_of_turned") (by simp), ?_⟩
    exact ⟨_, _, rfl, ok_place_turned X, _, rfl, _, rfl, _, rfl, sa, of, _, x, y, rfl, rfl, hs, fun H1 t k1 ht => fin H1 t k1 ht _ rfl rfl rfl⟩
theorem ok_is_moved (X : Tx w K mg) : Hd P w K mg base 3 (He.ga K "is_moved") (spForm K T gMov) := by
  refine mk_hd X.F_is_moved sc_is_moved (fun _ _ _ _ ⟨_, _, _, _, _, _, _, e, _⟩ => by rw [e]; rfl) (fun cdv A outer s H vs Q E hr h => ?_)
  obtain ⟨sa, of, st, below, n, d, ⟨a, b, rfl⟩, rfl, hs, ok, q⟩ := h
  refine ⟨_, pss_one (ps_ret (pe_callB (cr_all rfl) (by rfl) X.f_all bb_all (pa_cons (pe_lc (own := [("one", 1)]) (g := gName 1) (by rfl) sc_is_moved.nd (pi_tup (pe_slice sl_tup (pv 0) (po_some pe_int) po_none)) (blkOk_by (N := ["stage", "one"]) (sc := defScope s_is_moved) (by decide +kernel))
      (fun _ _ _ _ _ => pg_name (i := 1) sc_is_moved.nd rfl (Or.inl rfl)) (fun _ _ _ _ _ => pts_nil) (fun _ _ _ _ _ => pe_h (ok_from X) hr X.g_is_from (pa_cons (pv 1) (pa_cons (pe_un un_neg (pe_gi X.i_FARTHEST_MOVE)) (pa_cons (pe_gi X.i_FARTHEST_MOVE) pa_nil))))) pa_nil))), ?_⟩
  refine ⟨_, rfl, _, rfl, _, _, rfl, SqT.of hs, (by show ¬ (HT.sIx 4 0 (some 2) = 0 ∧ HT.sIx 4 4 none = 4); decide), fun t ht => ?_⟩
  have e : cutV [V.str "moved", V.str of, V.int a, V.int b] (some 2) none = [V.int a, V.int b] := rfl
  rw [e]
  have k1 : Kp T No H (upd H t (.tup [V.int a, V.int b])) := .new ht
  refine ⟨t, rfl, ⟨_, SqT.of upd_same⟩, fun D hD => lc_mapT (T := T) (M := No) (R := RT) (G := G0) hD upd_same True.intro (fun i x H1 hx p => ?_) fun H1 acc k e el ha _ => all_of e ha (q H1 (k1.tr k))⟩
  have hx' : ∃ n, x = .int n ∧ -500 ≤ n ∧ n ≤ 500 := by
    match i, hx with
    | 0, hx => exact ⟨a, (Option.some.inj hx).symm, ok.2.1⟩
    | 1, hx => exact ⟨b, (Option.some.inj hx).symm, ok.2.2⟩
  obtain ⟨n, rfl, hn⟩ := hx'
  refine ⟨rfl, ?_⟩
  refine ⟨_, rfl, _, rfl, .inl ⟨_, _, _, rfl, hn, ?_⟩⟩
  refine p.next Tst.rt id hD .refl (line_big ?_) rfl fun _ => True.intro
  have := (List.getElem?_eq_some_iff.mp hx).1
  have e2 : [V.int a, V.int b].length = 2 := rfl
  omega
theorem ok_is_flipped (X : Tx w K mg) : Hd P w K mg base 1 (He.ga K "is_flipped") (spForm K T gFli) := by
  refine mk_hd X.F_is_flipped sc_is_flipped (fun _ _ _ _ ⟨_, _, _, _, _, _, _, e, _⟩ => by rw [e]; rfl) (fun cdv A outer s H vs Q E hr h => ?_)
  obtain ⟨sa, of, st, below, n, d, ⟨b, rfl⟩, rfl, hs, ok, q⟩ := h
  refine ⟨_, pss_one (ps_ret (pe_is X.f_isinstance X.f_bool (pe_ix ix_tup (pv 0) pe_int (fun _ _ => rfl)) bb_bool)), ?_⟩
  exact ⟨_, rfl, _, _, _, _, rfl, rfl, SqT.of hs, atI_nat (j := 2) rfl, isi (ty_bl b) k_bb (q H .refl)⟩
theorem ok_is_turned (X : Tx w K mg) : Hd P w K mg base 1 (He.ga K "is_turned") (spForm K T gTur) := by
  refine mk_hd X.F_is_turned sc_is_turned (fun _ _ _ _ ⟨_, _, _, _, _, _, _, e, _⟩ => by rw [e]; rfl) (fun cdv A outer s H vs Q E hr h => ?_)
  obtain ⟨sa, of, st, below, n, d, rfl, rfl, hs, ok, q⟩ := h
  exact ⟨_, pss_one (ps_ret pe_bl), q H .refl⟩
theorem optV_none (dp : Option Int) : decide (optV dp = .non) = decide (dp = none) := by cases dp <;> rfl
theorem iteN {p A B : Prop} [Decidable p] (h1 : ¬ p → A) (h2 : p → B) : if (!decide p) = true then A else B := by
  by_cases h : p
  · rw [decide_eq_true h]
    exact h2 h
  · rw [decide_eq_false h]
    exact h1 h
theorem ok_is_curved (X : Tx w K mg) : Hd P w K mg base 4 (He.ga K "is_curved") (spForm K T gCur) := by
  refine mk_hd X.F_is_curved sc_is_curved (fun _ _ _ _ ⟨_, _, _, _, _, _, _, e, _⟩ => by rw [e]; rfl) (fun cdv A outer s H vs Q E hr h => ?_)
  obtain ⟨sa, of, st, below, n, d, ⟨t, dp, rfl⟩, rfl, ⟨ta, hs, ht⟩, ⟨d0, ok, tok⟩, q⟩ := h
  have nd := sc_is_curved.nd
  refine ⟨_, pss_cons (ps_par (i := 1) (j := 2) (by rfl) nd rfl rfl (by decide) rfl rfl (pa_cons (pe_ix ix_tup (pv 0) pe_int (fun _ _ => rfl)) (pa_cons (pe_ix ix_tup (pv 0) pe_int (fun _ _ => rfl)) pa_nil)) (by rfl))
    (pss_cons (ps_if (PW.pt (pw_and (pt_cmpR op_notN (pv 2) pe_non (nomark _)) (pw_and1 (pt_not (pt_val (pe_h (ok_from X) hr X.g_is_from (pa_cons (pv 2) (pa_cons pe_int (pa_cons (pe_gi X.i_DEEPEST) pa_nil))))))))) (pss_one (ps_ret pe_bl)) pss_nil)
    (pss_cons (ps_if (PW.pt (pw_or (pt_not (pt_val (pe_is X.f_isinstance X.f_tuple (pv 1) bb_tuple))) (pw_or1 (pt_not (pt_chain op_le op_le pe_int (pe_callB call_len_seq (by rfl) X.f_len bb_len (pa_cons (pv 1) pa_nil)) (pe_op op_add (pe_gi X.i_DEEPEST) pe_int)))))) (pss_one (ps_ret pe_bl)) pss_nil)
    (pss_one (ps_ret (pe_h (ok_wholes (T := T) X) hr X.g_are_wholes (pa_cons (pv 1) (pa_cons pe_int (pa_cons (pe_ifExp (pt_cmpR op_isN (pv 2) pe_non (nomark _)) (pe_gi X.i_DEEPEST) (pv 2)) pa_nil)))))))), ?_⟩
  refine ⟨_, rfl, _, _, _, _, rfl, rfl, SqT.of hs, atI_nat (j := 2) rfl, ?_⟩
  refine ⟨_, rfl, _, _, _, _, rfl, rfl, SqT.of hs, atI_nat (j := 3) rfl, ?_⟩
  have h1 := tok.len
  have h2 := tok.b0
  have l2 : ((t.map V.int).length : Int) = d0 + 1 := by rw [List.length_map]; exact h1
  have lt : t.length ≤ 70000 := by omega
  have hb1 : d ≤ 65535 := tok.b1.2
  have hb0 : 1 ≤ d := tok.b1.1
  have hbd := tok.bd
  refine ⟨_, _, rfl, _, rfl, rfl, _, rfl, ?_⟩
  cases dp with
  | none =>
    refine iteN (fun z => absurd rfl z) fun _ => ?_
    refine ⟨_, rfl, isi (ty_tup ht) k_tt ⟨_, rfl, iteF ?_⟩⟩
    refine ⟨_, rfl, _, _, rfl, .inr (SqT.of ht), _, _, rfl, rfl, _, rfl, iteD (fun _ => ?_) fun z => absurd (show (2 : Int) ≤ ((t.map V.int).length : Int) by omega) z⟩
    refine ⟨_, _, rfl, rfl, _, _, rfl, rfl, _, rfl, iteN (fun z => absurd (show ((t.map V.int).length : Int) ≤ 65535 + 1 by omega) z) fun _ => ?_⟩
    refine ⟨_, rfl, _, rfl, rfl, _, rfl, iteD (fun _ => ?_) fun z => absurd rfl z⟩
    exact ⟨ta, t, _, _, rfl, ht, fun v hv => ⟨(tok.nums v hv).1, by have := (tok.nums v hv).2; omega⟩, lt, q⟩
  | some dd =>
    have e : d = dd := hbd
    subst e
    refine iteN (fun _ => ?_) fun z => nomatch z
    refine ⟨_, rfl, .inl ⟨_, _, _, rfl, ⟨hb0, hb1⟩, _, rfl, iteF ?_⟩⟩
    refine ⟨_, rfl, isi (ty_tup ht) k_tt ⟨_, rfl, iteF ?_⟩⟩
    refine ⟨_, rfl, _, _, rfl, .inr (SqT.of ht), _, _, rfl, rfl, _, rfl, iteD (fun _ => ?_) fun z => absurd (show (2 : Int) ≤ ((t.map V.int).length : Int) by omega) z⟩
    refine ⟨_, _, rfl, rfl, _, _, rfl, rfl, _, rfl, iteN (fun z => absurd (show ((t.map V.int).length : Int) ≤ 65535 + 1 by omega) z) fun _ => ?_⟩
    refine ⟨_, rfl, _, rfl, rfl, _, rfl, iteD (fun z => nomatch z) fun _ => ?_⟩
    exact ⟨_, rfl, ta, t, _, _, rfl, ht, fun v hv => tok.nums v hv, lt, q⟩
end
end K9

set_option maxHeartbeats 4000000
namespace K9
open PySem PySem.Spec PyProof.Rows L2 NdefX LamX
section
variable {P : Program} {w : World} {K : PySem.W.Frag} {mg : Str → Option Value} {base : Heap} {T : List NTab} {M : Addr → Prop} {spl : Addr → NF → Sp} {kl : Nat}
theorem ok_shape_of_curved (X : Tx w K mg) : Hd P w K mg base 1 (He.ga K "shape_of_curved") (spShape K T gCur) := by
  refine mk_hd X.F_shape_of_curved sc_shape_of_curved (fun _ _ _ _ ⟨_, _, _, _, _, _, _, _, e, _⟩ => by rw [e]; rfl) (fun cdv A outer s H vs Q E hr h => ?_)
  obtain ⟨sa, shs, of, st, below, n, d, ⟨t, dp, rfl⟩, rfl, ⟨ta, hs, ht⟩, ⟨d1, ok, tok⟩, hsh, q⟩ := h
  rcases hsh with ⟨rfl, _⟩ | ⟨sh0, n0, d0, hl, ok0, hsh0⟩
  · exact absurd ok id
  obtain ⟨rfl, rfl⟩ := ChOk.det ok0 ok
  have nd := sc_shape_of_curved.nd
  refine ⟨_, pss_cons (ps_asg (pe_ix ix_list (pv 1) pe_int (fun _ _ => rfl)) (pg_tup rfl (pgs_cons (pg_name (i := 2) nd rfl (.inl rfl)) (pgs_cons (pg_name (i := 3) nd rfl (.inl rfl)) pgs_nil))))
    (pss_cons (ps_set (i := 4) nd rfl (.inl rfl) (pe_ix ix_tup (pv 0) pe_int (fun _ _ => rfl)))
    (pss_cons (ps_set (i := 5) nd rfl (.inl rfl) (pe_ifExp (pt_cmpR op_isN (pe_ix ix_tup (pv 0) pe_int (fun _ _ => rfl)) pe_non (nomark _)) (pv 3) (pe_ix ix_tup (pv 0) pe_int (fun _ _ => rfl))))
    (pss_cons (ps_if (PW.pt (pw_or (pt_cmpR op_ne (pe_callB call_len_seq (by rfl) X.f_len bb_len (pa_cons (pv 4) pa_nil)) (pe_op op_add (pv 3) pe_int) (nomark _)) (pw_or1 (pt_cmpR op_gt (pe_callB (cr_maxT rfl) (by rfl) X.f_max bb_max (pa_cons (pv 4) pa_nil)) (pv 5) (nomark _))))) (pss_one ps_never) pss_nil)
    (pss_one (ps_ret (pe_tup (pa_cons (pv 2) (pa_cons (pv 5) pa_nil)))))))), ?_⟩
  have h1 := tok.len
  have h2 := tok.b0
  have l2 : ((t.map V.int).length : Int) = d0 + 1 := by rw [List.length_map]; exact h1
  have lt : 0 < t.length := by omega
  have hbd := tok.bd
  refine ⟨_, rfl, _, _, _, _, rfl, rfl, SqL.of hl, atI_nat (j := 0) rfl, _, _, rfl, SqT.of hsh0, rfl, _, _, rfl, _, _, rfl, rfl, ?_⟩
  refine ⟨_, rfl, _, _, _, _, rfl, rfl, SqT.of hs, atI_nat (j := 2) rfl, ?_⟩
  refine ⟨_, rfl, _, _, _, _, rfl, rfl, SqT.of hs, atI_nat (j := 3) rfl, rfl, _, rfl, ?_⟩
  cases dp with
  | none =>
    have e : d = d0 := hbd
    subst e
    refine iteD (fun _ => ?_) fun z => absurd rfl z
    refine ⟨_, rfl, _, rfl, _, _, rfl, .inr (SqT.of ht), _, rfl, _, _, rfl, rfl, rfl, _, rfl, iteN (fun z => absurd (show V.int ((t.map V.int).length : Int) = V.int (d + 1) by rw [l2]) z) fun _ => ?_⟩
    refine ⟨_, rfl, _, _, rfl, SqT.of ht, lt, fun m hm => ⟨_, rfl, _, _, rfl, rfl, _, rfl, iteD (fun z => ?_) fun _ => ?_⟩⟩
    · have := (tok.nums m hm).2
      omega
    · exact ⟨_, rfl, _, rfl, small2, fun u hu => q _ u (.new hu) upd_same⟩
  | some dd =>
    have e : d = dd := hbd
    subst e
    refine iteD (fun z => nomatch z) fun _ => ?_
    refine ⟨_, rfl, _, _, _, _, rfl, rfl, SqT.of hs, atI_nat (j := 3) rfl, ?_⟩
    refine ⟨_, rfl, _, _, rfl, .inr (SqT.of ht), _, rfl, _, _, rfl, rfl, rfl, _, rfl, iteN (fun z => absurd (show V.int ((t.map V.int).length : Int) = V.int (d0 + 1) by rw [l2]) z) fun _ => ?_⟩
    refine ⟨_, rfl, _, _, rfl, SqT.of ht, lt, fun m hm => ⟨_, rfl, _, _, rfl, rfl, _, rfl, iteD (fun z => ?_) fun _ => ?_⟩⟩
    · have := (tok.nums m hm).2
      omega
    · exact ⟨_, rfl, _, rfl, small2, fun u hu => q _ u (.new hu) upd_same⟩
theorem ok_tell_curved (X : Tx w K mg) (C : Cal P w K mg base kl spl) : Hd P w K mg base (kl + 1) (He.ga K "tell_curved") (spTell K T M spl gCur) := by
  refine mk_hd X.F_tell_curved sc_tell_curved (fun _ _ _ _ ⟨_, _, _, _, _, _, _, _, _, _, _, _, _, _, e, _⟩ => by rw [e]; rfl) (fun cdv A outer s H vs Q E hr h => ?_)
  obtain ⟨sa, sh, f, F, x, y, p, of, st, below, n, d, PG, ⟨t, dp, rfl⟩, rfl, hf, hfk, ⟨ta, hs, ht⟩, np, ⟨d0, ok, tok⟩, hpn, pg, lk, q⟩ := h
  refine ⟨_, pss_one (ps_ret (pe_ix ix_tup (pe_ix ix_tup (pv 0) pe_int (fun _ _ => rfl)) (pe_callF C hr (i := 2) rfl (.inl rfl) (pa_cons pe_int (pa_cons (pv 3) (pa_cons (pv 4) (pa_cons (pv 5) pa_nil))))) (fun _ _ => rfl))), ?_⟩
  refine ⟨_, rfl, _, _, _, _, rfl, rfl, SqT.of hs, atI_nat (j := 2) rfl, ?_⟩
  refine ⟨f, F, rfl, hf, _, rfl, _, rfl, _, rfl, hf, ?_⟩
  refine lk ok.ne _ _ _ _ .refl fun H2 k2 g2 => ?_
  have b := val_le ok x y p hpn
  exact ⟨_, _, _, _, rfl, rfl, SqT.of (k2.tp _ _ ht), atI_int b.1 (map_at (Tab_at tok b.1 b.2)), q _ k2 g2⟩
end
end K9

set_option maxHeartbeats 4000000
/-! Set comprehensions, the kind of set left open: of ints, of tuples of ints. -/
namespace K9
open PySem PySem.Spec PyProof.Rows L2 NdefX LamX PpSet
/-- a new set's object -/
abbrev set0 (w : World) : Obj := { cls := .type "set", dict := none, data := .set #[] 0 (.fresh 0 0 (!w.params.followText "set-order")) }
/-- a kind of set: what stands at an address in which state, when a value may be added, the state then -/
structure SKind (α : Type) where
  so : Program → World → Addr → α → HO
  a0 : α
  pre : V → α → PySem.W.Frag → Hp → Prop
  nx : V → α → α
  new : ∀ (P : Program) (w : World) (H : Hp) (h : Heap) (D : Addr), h.get? D = some (set0 w) → ObjOk P w H h D (so P w D a0)
  add : ∀ (X : Cx) (pins : List (Addr × Obj)) (σ : L2.St) (H : Hp) (s : Shared) (D : Addr) (y : V) (v : Value) (a : α) (Q E : Value → Shared → Prop), X.A.units + 70 < cLine → Inv X pins σ H s → H D = some (so X.prog X.w D a) → RelV y v → pre y a X.K H →
    (∀ s', Inv X pins σ (upd H D (so X.prog X.w D (nx y a))) s' → Q .none s') → wpAny (model X.prog X.w) X.A (call (.builtin "set.add") [.ref D, v]) Q E s
/-- {elt for target in iter} -/
def tSet {α : Type} (S : SKind α) (P : Program) (w : World) (K : PySem.W.Frag) (wi : TI) (g : TG) (tt : TT) (te : TE) (vs : List Nat) : TE := fun σ H Q => wi σ H fun J H1 => ∀ D, H1 D = none → ∃ W : Nat → Nat → Hp → Prop, (∃ m, W 0 m (upd H1 D (S.so P w D S.a0))) ∧ ∀ i m H, W i m H →
  (J.stop i H ∧ Q (.ref D) H) ∨ (J.go i H ∧ ∃ Nx : Hp → Prop, (∀ H', Nx H' → ∃ m', m' < m ∧ W (i + 1) m' H') ∧ ∀ x H', J.yld i H x H' → g x (wipe σ vs) H' fun σ2 H2 => wipe σ2 vs = wipe σ vs ∧ tt σ2 H2 fun b H3 =>
    if b = true then te σ2 H3 fun y H4 => ∃ a : α, H4 D = some (S.so P w D a) ∧ S.pre y a K H4 ∧ Nx (upd H4 D (S.so P w D (S.nx y a))) else Nx H3)
section
variable {X : Cx} {α : Type} {S : SKind α} {elt tg iter : Expr} {ifs : List Expr} {scope : Scope} {own : List (PySem.Str × Nat)} {pos pos' : Pos} {wi : TI} {g : TG} {tt : TT} {te : TE}
theorem set_core {pins : List (Addr × Obj)} {s : Shared} {σ : L2.St} {H : Hp} {Q : VK} {use : Option (Value → Sem Unit)} {Qf : Value → Shared → Prop} (hu : X.A.units + 70 < cLine) (calm : X.calm = true) (nodup : X.N.Nodup) (I : Inv X pins σ H s) (hi : PI X tg iter wi) (blk : BlkOk X.N X.env.scope scope own)
    (pgs : ∀ (s : Shared) (H : Hp) (C : Addr) (cl : List (PySem.Str × Addr)) (fp : List Addr), PG (X.blk s H scope (compEnvC scope cl C X.env) fp) tg g) (pts : ∀ (s : Shared) (H : Hp) (C : Addr) (cl : List (PySem.Str × Addr)) (fp : List Addr), PTs (X.blk s H scope (compEnvC scope cl C X.env) fp) ifs tt)
    (pes : ∀ (s : Shared) (H : Hp) (C : Addr) (cl : List (PySem.Str × Addr)) (fp : List Addr), PE (X.blk s H scope (compEnvC scope cl C X.env) fp) elt te) (fold : ∀ x, foldedSetIterable iter X.env x = pure x)
    (h : tSet S X.prog X.w X.K wi g tt te (own.map (·.2)) σ H Q)
    (post : ∀ D C s' m H', Inv X pins σ H' s' → Q (.ref D) H' → s'.heap.Ns C m → FpOk X pins H' C → compPost (model X.prog X.w) X.A X.xe use Qf (.ref D) C (.ok .next) s') :
    wpAny (model X.prog X.w) X.A (comprehension (.SetComp elt [⟨tg, iter, ifs, 0⟩] scope pos) scope X.env pos' (newSet (.type "set")) false (eval iter X.env) use) Qf X.xe s := by
  have caught : ∀ y ∈ scope.names, y.2 = .free → ∃ c, X.env.cells.lookup y.1 = some c := fun y hy e => (blk.free y hy e).elim (fun k => I.ok.has _ (.inl k)) fun k => I.ok.has _ (.inr k)
  refine wpAny_comprehension_free (use := use) rfl fold (closure_ok caught) blk.kind (fun y hy e => by rw [blk.uniq y hy, e]) (thn (hi.run pins s σ H _ I h) fun _ s1 hx => thn hx fun itv t2 r2 => ?_)
  obtain ⟨it, fp, tn, J, H2, rfl, I2, T, st2, f2, q⟩ := r2
  refine newSet_ok (newEnv_comp ?_)
  generalize hD : t2.heap.objs.size = D
  have free2 : H2 D = none := I2.hok.fresh (Nat.le_of_eq hD)
  obtain ⟨W, ⟨m0, w0⟩, turn⟩ := q D free2
  generalize eZ : ({ t2 with heap := t2.heap.push (set0 X.w) } : Shared) = z3
  have I3 : Inv X pins σ (upd H2 D (S.so X.prog X.w D S.a0)) z3 := by
    rw [← eZ]
    refine I2.laid (t' := t2.toks) (fun b o e => Heap.get?_push_of_some _ e) (Nat.le_of_eq hD) (S.new _ _ _ _ _ ?_)
    rw [← hD]
    exact Heap.get?_push_size _ rfl
  have hz : z3.heap = t2.heap.push (set0 X.w) := by rw [← eZ]
  have small : ∀ b ∈ fp, b < t2.heap.objs.size := fun b hb => by
    obtain ⟨_, e, _⟩ := T.obj _ _ st2 b hb
    exact Heap.lt_size e
  have f3 : ∀ b ∈ fp, FpOk X pins (upd H2 D (S.so X.prog X.w D S.a0)) b ∧ b < z3.heap.objs.size := fun b hb => by
    have lt := small b hb
    refine ⟨⟨?_, (f2 b hb).2⟩, by rw [hz, Heap.size_push]; exact Nat.lt_succ_of_lt lt⟩
    rw [upd_ne (by rw [← hD]; exact Nat.ne_of_lt lt)]
    exact (f2 b hb).1
  have st3 : tn 0 z3.heap := T.keep _ _ _ st2 fun b _ o e => by rw [hz]; exact Heap.get?_push_of_some _ e
  have I4 := block_start I3 blk nodup f3
  have pg := pgs z3 (upd H2 D (S.so X.prog X.w D S.a0)) z3.heap.objs.size (cellsFrom (z3.heap.objs.size + 1) scope.names (cloFrom X.env.cells scope.names [])) fp
  have pt := pts z3 (upd H2 D (S.so X.prog X.w D S.a0)) z3.heap.objs.size (cellsFrom (z3.heap.objs.size + 1) scope.names (cloFrom X.env.cells scope.names [])) fp
  have pe := pes z3 (upd H2 D (S.so X.prog X.w D S.a0)) z3.heap.objs.size (cellsFrom (z3.heap.objs.size + 1) scope.names (cloFrom X.env.cells scope.names [])) fp
  show codeAny _ _ (.compStart (.SetComp elt [⟨tg, iter, ifs, 0⟩] scope pos) 0 (.ref it) (.ref D) (compEnvC scope (cellsFrom (z3.heap.objs.size + 1) scope.names (cloFrom X.env.cells scope.names [])) z3.heap.objs.size X.env)) (compPost (model X.prog X.w) X.A X.xe use Qf (.ref D) z3.heap.objs.size) { z3 with heap := pushCells (z3.heap.push { cls := .type "dict", data := .dict #[] }) scope.names }
  have off : ∀ b ∈ fp, (upd H2 D (S.so X.prog X.w D S.a0)) b = none := fun b hb => (f3 b hb).1.1
  generalize hce : compEnvC scope (cellsFrom (z3.heap.objs.size + 1) scope.names (cloFrom X.env.cells scope.names [])) z3.heap.objs.size X.env = ce at I4 pg pt pe ⊢
  have cL : ce.locals = z3.heap.objs.size := by subst hce; rfl
  generalize upd H2 D (S.so X.prog X.w D S.a0) = G3 at I3 I4 pg pt pe w0 off f3
  generalize hz4 : ({ z3 with heap := pushCells (z3.heap.push { cls := .type "dict", data := .dict #[] }) scope.names } : Shared) = z4 at I4 ⊢
  have st4 : tn 0 z4.heap := T.keep _ _ _ st3 fun b _ o e => by rw [← hz4]; exact pushCells_keeps _ _ _ _ (Heap.get?_push_of_some _ e)
  have stand : ∀ {τ : L2.St} {G : Hp} {t : Shared}, Inv (X.blk z3 G3 scope ce fp) [] τ G t → (∀ b ∈ fp, G b = none) → ∀ b ∈ fp, FpOk (X.blk z3 G3 scope ce fp) [] G b := fun {τ G t} I' hn b hb =>
    ⟨hn b hb, (I'.ok.exf b hb).1, I'.ok.exfs b hb, .inl hb, fun x c e => (I'.ok.exf b hb).2 x c e, fun p hp => absurd (show p ∈ ([] : List (Addr × Obj)) ++ [] from hp) (by simp)⟩
  have loop : codeAny (model X.prog X.w) X.A (.compLoop (.SetComp elt [⟨tg, iter, ifs, 0⟩] scope pos) 0 (.ref it) (.ref D) ce) (compPost (model X.prog X.w) X.A X.xe use Qf (.ref D) z3.heap.objs.size) z4 := by
    refine compLoopS_any (fun n t => ∃ i G, Inv (X.blk z3 G3 scope ce fp) [] (wipe σ (own.map (·.2))) G t ∧ tn i t.heap ∧ (∀ b ∈ fp, G b = none) ∧ W i n G) ?_ m0 ⟨0, G3, I4, st4, off, w0⟩
    rintro n s5 ⟨i, G5, I5, st5, n5, w5⟩
    rcases turn i n G5 w5 with ⟨stop, qq⟩ | ⟨go, Nx, hNx, step⟩
    · refine thnF (T.done (X.blk z3 G3 scope ce fp) rfl rfl rfl calm i [] s5 _ G5 (fun _ _ => False) I5 (stand I5 n5) st5 stop) fun r s6 ⟨hr, I6⟩ => ?_
      subst hr
      have I7 : Inv X pins σ G5 s6 := I3.call' (ch := fp) I6.os I6.base I6.hok I6.bare fun b hb => ⟨(f3 b hb).1.2.2.2.1, (f3 b hb).1.2.1, (f3 b hb).1.2.2.2.2.1, (f3 b hb).1.2.2.2.2.2⟩
      have nC : G5 z3.heap.objs.size = none := by
        have z : G5 ce.locals = none := I6.free
        rwa [cL] at z
      obtain ⟨m, hn, _⟩ := I6.loc
      have hn : s6.heap.Ns ce.locals m := hn
      rw [cL] at hn
      exact post D z3.heap.objs.size s6 m G5 I7 qq hn (I3.fpOk (Nat.le_refl _) nC)
    · refine thnF (T.item (X.blk z3 G3 scope ce fp) rfl rfl rfl calm i [] s5 _ G5 (fun _ _ => False) I5 (stand I5 n5) st5 go) fun r s6 ⟨u, hr, r6⟩ => ?_
      subst hr
      refine thnF r6 fun _ s7 ⟨x, G7, I7, r7, y7, st7, n7⟩ => ?_
      have J7 := I7.pinned (stand I7 n7) (T.obj _ _ st7)
      refine thnF (pg.run _ s7 _ G7 x u _ J7 r7 (step x G7 y7)) fun _ s8 ⟨σ8, G8, I8, e8, q8⟩ => ?_
      refine thnF (pt.run _ s8 σ8 G8 _ I8 q8) fun b s9 ⟨G9, I9, q9⟩ => ?_
      have fin : ∀ {t : Shared} {G : Hp}, Inv (X.blk z3 G3 scope ce fp) ([] ++ pinsAt fp s7.heap) σ8 G t → Nx G → ∃ m, m < n ∧ ∃ i G, Inv (X.blk z3 G3 scope ce fp) [] (wipe σ (own.map (·.2))) G t ∧ tn i t.heap ∧ (∀ b ∈ fp, G b = none) ∧ W i m G := fun {t G} I' nx => by
        obtain ⟨m', lt, w'⟩ := hNx G nx
        have pinned : ∀ b ∈ fp, ∀ o, s7.heap.get? b = some o → t.heap.get? b = some o ∧ G b = none := fun b hb o e =>
          have z := I'.pin (b, o) (List.mem_append_right _ (List.mem_append_right _ (mem_pinsAt hb e)))
          ⟨z.1, z.2.1⟩
        have hl : (wipe σ (own.map (·.2))).length = σ8.length := by rw [← e8, wipe_length]
        refine ⟨m', lt, i + 1, G, (I'.unpinned (pins := [])).weak hl (fun j v e => ?_), T.keep _ _ _ st7 fun b hb o e => (pinned b hb o e).1, fun b hb => ?_, w'⟩
        · rw [← e8] at e
          exact (wipe_some e).1
        · obtain ⟨o, e, _⟩ := T.obj _ _ st7 b hb
          exact (pinned b hb o e).2
      cases b with
      | false =>
        simp only [Bool.false_eq_true, if_false] at q9 ⊢
        exact fin I9 q9
      | true =>
        simp only [if_true] at q9 ⊢
        refine thnF (pe.run _ s9 σ8 G9 _ I9 q9) fun z s10 ⟨yv, G10, I10, r10, a, hD10, hp10, nx⟩ => ?_
        exact S.add (X.blk z3 G3 scope ce fp) _ _ _ _ D yv z a _ _ hu I10 hD10 r10 hp10 fun s11 I11 => fin I11 nx
  exact codeAny_compStart_set loop (T.self X.A 0 _ _ _ st4 loop)
theorem pe_set (hu : X.A.units + 70 < cLine) (calm : X.calm = true) (nodup : X.N.Nodup) (hi : PI X tg iter wi) (blk : BlkOk X.N X.env.scope scope own)
    (pgs : ∀ (s : Shared) (H : Hp) (C : Addr) (cl : List (PySem.Str × Addr)) (fp : List Addr), PG (X.blk s H scope (compEnvC scope cl C X.env) fp) tg g) (pts : ∀ (s : Shared) (H : Hp) (C : Addr) (cl : List (PySem.Str × Addr)) (fp : List Addr), PTs (X.blk s H scope (compEnvC scope cl C X.env) fp) ifs tt)
    (pes : ∀ (s : Shared) (H : Hp) (C : Addr) (cl : List (PySem.Str × Addr)) (fp : List Addr), PE (X.blk s H scope (compEnvC scope cl C X.env) fp) elt te) (fold : ∀ x, foldedSetIterable iter X.env x = pure x := by intro _; rfl) :
    PE X (.SetComp elt [⟨tg, iter, ifs, 0⟩] scope pos) (tSet S X.prog X.w X.K wi g tt te (own.map (·.2))) := by
  refine ⟨fun pins s σ H Q I h => ?_⟩
  rw [eval_SetComp]
  refine set_core hu calm nodup I hi blk pgs pts pes fold h fun D C t m H' I' q hn f => ⟨m, hn, fun _ sb => ?_⟩
  obtain ⟨f0, f1, f2, f3, f4, f5⟩ := f
  exact ⟨.ref D, H', I'.turned (t' := t.toks) (fun b o hb e => (sb.2 b hb).trans e) f0 f1 f3 f4 f5, rfl, q⟩
end
/-! ### of ints, all one -/
def intS (k : Int) : SKind Nat where
  so := fun P w D n => SetO w D (fun j => decide (n = 1) && decide (j = k)) n
  a0 := 0
  pre := fun y n _ _ => y = .int k ∧ n ≤ 1
  nx := fun _ _ => 1
  new := fun P w H h D e => setO_new (by
    have q : (fun j : Int => decide ((0 : Nat) = 1) && decide (j = k)) = fun j => decide (j ∈ ([] : List Int).take 0) := by
      funext j
      simp
    rw [q]
    exact setR_new_at e)
  add := fun X pins σ H s D y v n Q E hu I hD r p h => by
    obtain ⟨rfl, hn⟩ := p
    obtain ⟨tk, rfl⟩ := r
    refine setR_add (setO_get I hD) (by unfold scanBound; omega) fun h' sb new => h _ ?_
    have he : ∃ u, h'.get? D = some u := by
      have ⟨o, _, _, _, ho, _⟩ := new
      exact ⟨o, ho⟩
    refine I.write (e := D) (t' := s.toks + 1) (by rw [hD]; trivial) (.inl rfl) (fun b u hb hu => (sb.2 b hb).trans hu) he (setO_new ?_)
    have e1 : (fun j : Int => decide ((1 : Nat) = 1) && decide (j = k)) = fun j => (decide (n = 1) && decide (j = k)) || decide (j = k) := by
      funext j
      by_cases c : j = k <;> simp [c]
    have e2 : (1 : Nat) = if (decide (n = 1) && decide (k = k)) = true then n else n + 1 := by
      by_cases c : n = 1
      · simp [c]
      · simp [c]
        omega
    rw [e1]
    have new2 := new
    rw [← e2] at new2
    exact new2
/-! ### of tuples of ints, all one -/
def tupS (k : List Int) : SKind (List Addr) where
  so := fun P w D l => SetTO P w D (l.map fun x => (x, k))
  a0 := []
  pre := fun y l K H => l.length ≤ 1 ∧ (∀ x ∈ l, SqT K H x (k.map V.int)) ∧ ∃ t, y = .ref t ∧ SqT K H t (k.map V.int)
  nx := fun y l => match l, y with
    | [], .ref t => [t]
    | l, _ => l
  new := fun P w H h D e => setTO_new (setTR_fresh e).t0
  add := fun X pins σ H s D y v l Q E hu I hD r p h => by
    obtain ⟨hl, hx, t, rfl, ht⟩ := p
    obtain rfl : v = Value.ref t := r
    have R0 : SetT0 X.prog X.w s.heap D (l.map fun x => (x, k)) := (I.hok D _ hD).1
    obtain ⟨es, ep, tb, R⟩ := R0.full fun p hp => by
      obtain ⟨x, hm, rfl⟩ := List.mem_map.mp hp
      exact I.isT (hx x hm)
    have hT := I.isT ht
    obtain ⟨o, ho, hex, hd⟩ := R.ob
    have hty : s.TypeIs (.ref D) "set" := ⟨o, ho, hex.1⟩
    refine wpAny_call_entry F.slot_set_add hty F.entry_set_add ?_ (F.args_set_add_2 _ _)
    unfold Builtin.«set.add» Builtin.Frozenset.oneOther
    simp only [List.isEmpty_nil, bind_assoc]
    unfold Builtin.Frozenset.addrOf setAdd
    refine wpAny_bind (wpAny_pure ?_)
    try dsimp only
    refine wpAny_bind (wpAny_pure ?_)
    try dsimp only
    refine wpAny_bind (wpAny_holding (wpAny_bind (wpAny_pyHash_tuple (by show X.A.units + 1 < cLine; omega) hT ?_)))
    refine add_at (s := { s with toks := s.toks + (k.length + 1) }) R hT (by show X.A.units + 1 < cLine; omega) (by rw [List.length_map]; omega) fun b h' L' es' ep' t' sb R' c1 c2 => ?_
    show wpAny _ _ (ret Value.none) _ _ _
    refine wpAny_pure ⟨_, rfl, h _ ?_⟩
    have he : ∃ u, h'.get? D = some u := by
      obtain ⟨o', ho', _⟩ := R'.ob
      exact ⟨o', ho'⟩
    refine I.write (e := D) (t' := s.toks + (k.length + 1)) (by rw [hD]; trivial) (.inl rfl) (fun b u hb hu => (sb.2 b hb).trans hu) he (setTO_new ?_)
    have R2 := R'.t0
    cases l with
    | nil =>
      have p := c2 (by simp)
      rw [List.perm_singleton.mp p] at R2
      exact R2
    | cons x l =>
      have e : L' = (x :: l).map fun x => (x, k) := c1 (by simp)
      rw [e] at R2
      exact R2
/-! ### a comprehension over a tuple, all of one kind; its length -/
/-- all that stood stands -/
abbrev Ex (H H' : Hp) : Prop := ∀ b o, H b = some o → H' b = some o
structure SetP {α : Type} (S : SKind α) (P : Program) (w : World) (G : Nat → α → Hp → Prop) (H1 : Hp) (D : Addr) (i : Nat) (H : Hp) : Prop where
  ex : Ex H1 H
  at_ : ∃ st, H D = some (S.so P w D st) ∧ G i st H
section
variable {α : Type} {S : SKind α} {P : Program} {w : World} {K : PySem.W.Frag} {G : Nat → α → Hp → Prop} {g : TG} {tt : TT} {te : TE} {vs : List Nat} {σ : L2.St} {H1 : Hp} {D a : Addr} {xs : List V} {Qd : Hp → Prop}
/-- .. at the end of a turn -/
theorem SetP.next {i : Nat} {H H4 : Hp} {y : V} (hD : H1 D = none) (p : SetP S P w G H1 D i H) (e : Ex H H4) (hp : ∀ st, G i st H → S.pre y st K H4) (hg : ∀ st, G i st H → G (i + 1) (S.nx y st) (upd H4 D (S.so P w D (S.nx y st)))) :
    ∃ st, H4 D = some (S.so P w D st) ∧ S.pre y st K H4 ∧ SetP S P w G H1 D (i + 1) (upd H4 D (S.so P w D (S.nx y st))) := by
  obtain ⟨st, h1, h2⟩ := p.at_
  refine ⟨st, e _ _ h1, hp st h2, fun b o q => ?_, _, upd_same, hg st h2⟩
  rw [upd_ne (ne_of_none q hD)]
  exact e _ _ (p.ex _ _ q)
theorem set_mapT (hD : H1 D = none) (ha : H1 a = some (.tup xs)) (g0 : G 0 S.a0 (upd H1 D (S.so P w D S.a0)))
    (hs : ∀ i x H, xs[i]? = some x → SetP S P w G H1 D i H → g x (wipe σ vs) H fun σ2 H2 => wipe σ2 vs = wipe σ vs ∧ tt σ2 H2 fun b H3 => if b = true then te σ2 H3 fun y H4 => ∃ st, H4 D = some (S.so P w D st) ∧ S.pre y st K H4 ∧ SetP S P w G H1 D (i + 1) (upd H4 D (S.so P w D (S.nx y st))) else SetP S P w G H1 D (i + 1) H3)
    (hd : ∀ H st, Ex H1 H → H D = some (S.so P w D st) → G xs.length st H → Qd H) :
    ∃ W : Nat → Nat → Hp → Prop, (∃ m, W 0 m (upd H1 D (S.so P w D S.a0))) ∧ ∀ i m H, W i m H → ((Itt K a).stop i H ∧ Qd H) ∨ ((Itt K a).go i H ∧ ∃ Nx : Hp → Prop, (∀ H', Nx H' → ∃ m', m' < m ∧ W (i + 1) m' H') ∧ ∀ x H', (Itt K a).yld i H x H' → g x (wipe σ vs) H' fun σ2 H2 => wipe σ2 vs = wipe σ vs ∧ tt σ2 H2 fun b H3 =>
      if b = true then te σ2 H3 fun y H4 => ∃ st, H4 D = some (S.so P w D st) ∧ S.pre y st K H4 ∧ Nx (upd H4 D (S.so P w D (S.nx y st))) else Nx H3) := by
  have st : SetP S P w G H1 D 0 (upd H1 D (S.so P w D S.a0)) := ⟨fun b o q => (upd_ne (ne_of_none q hD)).trans q, _, upd_same, g0⟩
  refine ⟨fun i m H => m = xs.length - i ∧ i ≤ xs.length ∧ SetP S P w G H1 D i H, ⟨_, rfl, Nat.zero_le _, st⟩, ?_⟩
  rintro i m H ⟨rfl, hi, p⟩
  have q : SqT K H a xs := SqT.of (p.ex _ _ ha)
  rcases Nat.lt_or_ge i xs.length with lt | ge
  · refine .inr ⟨⟨xs, xs[i], q, List.getElem?_eq_getElem lt⟩, SetP S P w G H1 D (i + 1), fun H' p' => ⟨xs.length - (i + 1), by omega, rfl, lt, p'⟩, fun x H' y => ?_⟩
    obtain ⟨rfl, y⟩ := y
    exact hs i x _ (y xs q) p
  · obtain rfl : i = xs.length := Nat.le_antisymm hi ge
    obtain ⟨st, h1, h2⟩ := p.at_
    exact .inl ⟨⟨xs, q, Nat.le_refl _⟩, hd H st p.ex h1 h2⟩
end
/-- len(s) of such a set -/
def rLenS (P : Program) (w : World) : List V → Hp → VK → Prop := fun vs H Q => ∃ a, vs = [V.ref a] ∧ ((∃ S n, H a = some (SetO w a S n) ∧ n < 64 ∧ Q (.int n) H) ∨ ∃ L, H a = some (SetTO P w a L) ∧ Q (.int L.length) H)
theorem call_lenS {X : Cx} : CallR X (.builtin "len") (rLenS X.prog X.w) := by
  intro pins s σ H vs us Q I r h
  obtain ⟨a, rfl, h⟩ := h
  rw [Vals.ref1 r]
  rcases h with ⟨S, n, ha, hn, q⟩ | ⟨L, ha, q⟩
  · have hS : s.heap.SetOf (intKind X.prog X.w) a S n := (setO_get I ha).setOf
    obtain ⟨o, es, ep, t, ho, hex, hd, _, _, _, hf, en⟩ := hS
    exact call_len_set ho hex hd hf (by rw [en]; omega) ⟨.int n, H, I.tok _, ⟨_, by rw [en]⟩, q⟩
  · have R0 : SetT0 X.prog X.w s.heap a L := (I.hok a _ ha).1
    obtain ⟨es, ep, t, ⟨o, ho, hex, hd⟩, hr, tab, nd, pl, led, room, few⟩ := R0.ex
    have hz : es.size = L.length := by
      have e := congrArg List.length hr
      unfold rowsOf at e
      rwa [Array.length_toList, List.length_map] at e
    have hf : t.fits es.size = true := by
      have h1 := tab.sz
      rw [List.length_map] at h1
      unfold SetTable.fits SetTable.fill
      rw [tab.dm, Bool.and_eq_true, beq_iff_eq, decide_eq_true_eq]
      constructor
      · show t.place.size = es.size
        omega
      · show t.place.size + 0 ≤ t.mask
        omega
    exact call_len_set ho hex hd hf (by rw [hz]; omega) ⟨.int L.length, H, I.tok _, ⟨_, by rw [hz]⟩, q⟩
end K9

set_option maxHeartbeats 4000000
namespace K9
open PySem PySem.Spec PyProof.Rows L2 NdefX LamX
/-! ### rules that name the written part -/
def tLn (K : PySem.W.Frag) (ta : TE) : TE := fun σ H Q => ta σ H fun x H1 => ∃ p ys, x = V.ref p ∧ (SqL K H1 p ys ∨ SqT K H1 p ys) ∧ Q (.int ys.length) H1
section
variable {X : Cx} {a b : Expr} {ta tb : TE} {p p2 pos : Pos}
theorem pe_len (K : PySem.W.Frag) (hK : X.K = K) (hm : X.mg "len" = none) (ha : PE X a ta) (hg : Gl X "len" := by rfl) (n1 : starEach [a] X.env = (false, eval a X.env) :: starEach [] X.env := by rfl) : PE X (.Call (.Name "len" p) [a] [] pos) (tLn K ta) := by
  subst hK
  refine ⟨fun pins s σ H Q I h => (pe_callB (t := tCons ta tNil) call_len_seq hg hm bb_len (pa_cons ha pa_nil n1) (by decide) (by decide) n1).run pins s σ H Q I ?_⟩
  have h : ta σ H fun x H1 => ∃ p ys, x = V.ref p ∧ (SqL X.K H1 p ys ∨ SqT X.K H1 p ys) ∧ Q (.int ys.length) H1 := h
  have e : (fun x H1 => ∃ p ys, x = V.ref p ∧ (SqL X.K H1 p ys ∨ SqT X.K H1 p ys) ∧ Q (.int ys.length) H1) = fun x H1 => ∃ p ys, [x] = [V.ref p] ∧ (SqL X.K H1 p ys ∨ SqT X.K H1 p ys) ∧ Q (.int ys.length) H1 := by
    funext x H1
    simp only [List.cons.injEq, and_true]
  rw [e] at h
  exact h
theorem pe_isK (K : PySem.W.Frag) (hK : X.K = K) {ty : String} {T : Str} (hI : X.mg "isinstance" = none) (hT : X.mg T = none) (ha : PE X a ta) (hv : bootBuiltins T = some (.type ty)) (hg : Gl X "isinstance" := by rfl) (hg2 : Gl X T := by rfl) (hn : T ≠ "__name__" := by decide) (hd : (T == ("__debug__" : Str)) = false := by decide)
    (n1 : starEach [a, .Name T p2] X.env = (false, eval a X.env) :: starEach [.Name T p2] X.env := by rfl) (n2 : starEach [.Name T p2] X.env = (false, eval (.Name T p2) X.env) :: starEach [] X.env := by rfl) (n3 : (backTo pos (starEach [.Name T p2] X.env)).any (·.1) = false := by rfl) : PE X (.Call (.Name "isinstance" p) [a, .Name T p2] [] pos) (tIs K ty ta) := by
  subst hK
  exact pe_is hI hT ha hv hg hg2 hn hd n1 n2 n3
theorem pe_at (K : PySem.W.Frag) (hK : X.K = K) (ha : PE X a ta) (hb : PE X b tb) (hs : PlainIx b := by intro _ _; rfl) : PE X (.Subscript a b pos) (tOp (rIxT K) ta tb) := by
  subst hK
  exact pe_ix ix_tup ha hb hs
end
theorem all_sq {K : PySem.W.Frag} {D : Addr} {acc : List V} {H : Hp} (e : H D = some (.lst acc)) (h : ∀ j v, acc[j]? = some v → RT j v H) : SqL K H D ((List.replicate acc.length true).map V.bl) := by
  rw [← acc_true h]
  exact SqL.of e
theorem Room.u70 {k : Nat} {A : Around} (r : Room k A) : A.units + 70 < cLine := by
  have := r.un
  omega
theorem min1 (i : Nat) : min (i + 1) 1 = 1 := by omega
section
variable {P : Program} {w : World} {K : PySem.W.Frag} {mg : Str → Option Value} {base : Heap} {T : List NTab}
/-- a plane of wd columns -/
def spRows (T : List NTab) : Sp := fun vs H Q _ => ∃ (a : Addr) (pl : List (List Int)) (wd : Nat) (m1 m2 : Int), vs = [.ref a, .int m1, .int m2] ∧ PlaneAt H a pl ∧ (1 ≤ pl.length ∧ (pl.length : Int) ≤ m1 ∧ pl.length ≤ 70000) ∧ (∀ row ∈ pl, row.length = wd) ∧ (1 ≤ wd ∧ (wd : Int) ≤ m2) ∧ ∀ H', Kp T No H H' → Q (.bl true) H'
theorem ok_rows (X : Tx w K mg) : Hd P w K mg base 1 (He.ga K "are_rows") (spRows T) := by
  refine mk_hd X.F_are_rows sc_are_rows (fun _ _ _ _ ⟨_, _, _, _, _, e, _⟩ => by rw [e]; rfl) (fun cdv A outer s H vs Q E hr h => ?_)
  obtain ⟨a, pl, wd, m1, m2, rfl, ⟨rs, hs, hp⟩, ⟨h1, h2, h3⟩, hrow, ⟨hw1, hw2⟩, q⟩ := h
  have nd := sc_are_rows.nd
  refine ⟨_, pss_cons (ps_if (PW.pt (pw_or (pt_not (pt_val (pe_is X.f_isinstance X.f_tuple (pv 0) bb_tuple))) (pw_or1 (pt_not (pt_chain op_le op_le pe_int (pe_callB call_len_seq (by rfl) X.f_len bb_len (pa_cons (pv 0) pa_nil)) (pv 1)))))) (pss_one (ps_ret pe_bl)) pss_nil)
    (pss_cons (ps_if (pt_not (pt_val (pe_callB (cr_all rfl) (by rfl) X.f_all bb_all (pa_cons (pe_lc (own := [("row", 3)]) (g := gName 3) (by rfl) nd (pi_tup (pv 0)) (blkOk_by (N := ["thing", "most_rows", "most_columns", "row"]) (sc := defScope s_are_rows) (by decide +kernel))
      (fun _ _ _ _ _ => pg_name (i := 3) nd rfl (Or.inl rfl)) (fun _ _ _ _ _ => pts_nil) (fun _ _ _ _ _ => pe_and (pe_isK K rfl X.f_isinstance X.f_tuple (pv 3) bb_tuple) (pe_one (pe_chain op_le op_le pe_int (pe_len K rfl X.f_len (pv 3)) (pv 2))))) pa_nil)))) (pss_one (ps_ret pe_bl)) pss_nil)
    (pss_one (ps_ret (pe_cmpR op_eq (pe_callB call_lenS (by rfl) X.f_len bb_len (pa_cons (pe_set (S := intS wd) (own := [("row", 3)]) (g := gName 3) (Room.u70 hr) (by rfl) nd (pi_tup (pv 0)) (blkOk_by (N := ["thing", "most_rows", "most_columns", "row"]) (sc := defScope s_are_rows) (by decide +kernel))
      (fun _ _ _ _ _ => pg_name (i := 3) nd rfl (Or.inl rfl)) (fun _ _ _ _ _ => pts_nil) (fun _ _ _ _ _ => pe_len K rfl X.f_len (pv 3))) pa_nil)) pe_int (nomark _))))), ?_⟩
  have hl : (rs.map V.ref).length = pl.length := by rw [List.length_map, hp.len]
  refine ⟨_, rfl, isi (ty_tup hs) k_tt ⟨_, rfl, iteF ?_⟩⟩
  refine ⟨_, rfl, _, _, rfl, .inr (SqT.of hs), _, _, rfl, rfl, _, rfl, iteD (fun _ => ?_) fun z => absurd (show (1 : Int) ≤ ((rs.map V.ref).length : Int) by omega) z⟩
  refine ⟨_, rfl, _, _, rfl, rfl, _, rfl, iteN (fun z => absurd (show ((rs.map V.ref).length : Int) ≤ m1 by omega) z) fun _ => ?_⟩
  have row_at : ∀ (i : Nat) (x : V) (H1 : Hp), (rs.map V.ref)[i]? = some x → Kp T No H H1 → ∃ (r : Addr) (row : List Int), x = .ref r ∧ H1 r = some (.tup (row.map V.int)) ∧ row.length = wd := fun i x H1 hx k => by
    have hi : i < pl.length := by
      have := (List.getElem?_eq_some_iff.mp hx).1
      omega
    obtain ⟨r, e1, e2⟩ := hp.get (List.getElem?_eq_getElem hi)
    refine ⟨r, pl[i], ?_, k.tp _ _ e2, hrow _ (List.getElem_mem hi)⟩
    rw [map_at e1] at hx
    exact (Option.some.inj hx).symm
  refine ⟨_, rfl, a, rfl, ⟨_, SqT.of hs⟩, fun D hD => lc_mapT (T := T) (M := No) (R := RT) (G := G0) hD hs True.intro (fun i x H1 hx p => ?_) fun H1 acc k e el ha _ => ⟨D, List.replicate acc.length true, rfl, all_sq e ha, true, congrArg V.bl (all_true _), iteF ?_⟩⟩
  · obtain ⟨r, row, rfl, hr1, hw⟩ := row_at i x H1 hx p.kp
    refine ⟨rfl, ?_⟩
    refine ⟨_, rfl, isi (ty_tup hr1) k_tt ⟨_, rfl, iteT ?_⟩⟩
    have l1 : (row.map V.int).length = wd := by rw [List.length_map, hw]
    refine ⟨_, rfl, _, _, rfl, .inr (SqT.of hr1), _, _, rfl, rfl, _, rfl, iteD (fun _ => ?_) fun z => absurd (show (1 : Int) ≤ ((row.map V.int).length : Int) by omega) z⟩
    refine ⟨_, rfl, _, _, rfl, rfl, ?_⟩
    refine p.next Tst.rt id hD .refl (line_big ?_) (congrArg V.bl (decide_eq_true (show ((row.map V.int).length : Int) ≤ m2 by omega))) fun _ => True.intro
    have := (List.getElem?_eq_some_iff.mp hx).1
    omega
  · refine ⟨_, rfl, a, rfl, ⟨_, SqT.of (k.tp _ _ hs)⟩, fun D2 hD2 => set_mapT (S := intS wd) (G := fun i n _ => n = min i 1) hD2 (k.tp _ _ hs) (by show (0 : Nat) = min 0 1; omega) (fun i x H2 hx p => ?_) fun H2 st ex e2 g => ?_⟩
    · obtain ⟨r, row, rfl, hr1, hw⟩ := row_at i x H2 hx (k.tr (.of p.ex))
      refine ⟨rfl, ?_⟩
      refine ⟨_, rfl, _, _, rfl, .inr (SqT.of hr1), ?_⟩
      refine p.next hD2 (fun _ _ z => z) (fun st g => ⟨?_, ?_⟩) fun st g => (min1 i).symm
      · rw [List.length_map, hw]
      · show st ≤ 1
        rw [g]
        omega
    · have e1 : st = 1 := by
        have g : st = min (rs.map V.ref).length 1 := g
        omega
      subst e1
      refine ⟨_, rfl, .inl ⟨_, _, e2, by decide, rfl, ?_⟩⟩
      exact q _ (k.tr (.of ex))
/-- the list at D holds n times True -/
structure AccT (T : List NTab) (H1 : Hp) (D : Addr) (n : Nat) (H : Hp) : Prop where
  kp : Kp T No H1 H
  acc : ∃ acc, H D = some (.lst acc) ∧ acc.length = n ∧ ∀ j v, acc[j]? = some v → RT j v H
theorem AccT.start {H1 : Hp} {D : Addr} {n : Nat} (h : H1 D = none) : AccT T H1 D (0 * n) (upd H1 D (.lst [])) := ⟨.new h, [], upd_same, (Nat.zero_mul n).symm, fun j v e => by simp at e⟩
theorem AccT.next {H1 H H4 : Hp} {D : Addr} {n : Nat} (hD : H1 D = none) (a : AccT T H1 D n H) (k : Kp T No H H4) (hn : n < sizeLine) : ∃ acc, H4 D = some (.lst acc) ∧ acc.length < sizeLine ∧ AccT T H1 D (n + 1) (upd H4 D (.lst (acc ++ [.bl true]))) := by
  obtain ⟨acc, e, el, h⟩ := a.acc
  have e4 := k.lst e id
  refine ⟨acc, e4, by rw [el]; exact hn, (a.kp.tr k).trans (.put e4 True.intro) fun c hc => .inr (by rw [hc]; exact hD), acc ++ [.bl true], upd_same, by rw [List.length_append, el]; rfl, fun j v q => ?_⟩
  rw [List.getElem?_append] at q
  by_cases hj : j < acc.length
  · rw [if_pos hj] at q
    exact h j v q
  · rw [if_neg hj] at q
    have e1 : j - acc.length = 0 := by
      have := (List.getElem?_eq_some_iff.mp q).1
      simp at this
      omega
    rw [e1] at q
    exact (Option.some.inj q).symm
/-- planes of a picture -/
def spPlanes (T : List NTab) : Sp := fun vs H Q _ => ∃ (a : Addr) (p : Pic), vs = [.ref a, .int p.depth] ∧ PlanesAt H a p.planes ∧ PicOk p ∧ ∀ H', Kp T No H H' → Q (.bl true) H'
theorem ok_planes (X : Tx w K mg) : Hd P w K mg base 4 (He.ga K "are_planes") (spPlanes T) := by
  refine mk_hd X.F_are_planes sc_are_planes (fun _ _ _ _ ⟨_, _, e, _⟩ => by rw [e]; rfl) (fun cdv A outer s H vs Q E hr h => ?_)
  obtain ⟨a, p, rfl, ⟨rs, hs, hp⟩, ok, q⟩ := h
  have nd := sc_are_planes.nd
  refine ⟨_, pss_cons (ps_if (PW.pt (pw_or (pt_not (pt_val (pe_is X.f_isinstance X.f_tuple (pv 0) bb_tuple))) (pw_or1 (pt_not (pt_chain op_le op_le pe_int (pe_callB call_len_seq (by rfl) X.f_len bb_len (pa_cons (pv 0) pa_nil)) (pe_gi X.i_MOST_PLANES)))))) (pss_one (ps_ret pe_bl)) pss_nil)
    (pss_cons (ps_if (pt_not (pt_val (pe_callB (cr_all rfl) (by rfl) X.f_all bb_all (pa_cons (pe_lc (own := [("plane", 2)]) (g := gName 2) (by rfl) nd (pi_tup (pv 0)) (blkOk_by (N := ["thing", "depth", "plane", "row"]) (sc := defScope s_are_planes) (by decide +kernel))
      (fun _ _ _ _ _ => pg_name (i := 2) nd rfl (Or.inl rfl)) (fun _ _ _ _ _ => pts_nil) (fun _ _ _ _ _ => pe_h (ok_rows (T := T) X) hr X.g_are_rows (pa_cons (pv 2) (pa_cons (pe_gi X.i_WIDEST) (pa_cons (pe_gi X.i_WIDEST) pa_nil))))) pa_nil)))) (pss_one (ps_ret pe_bl)) pss_nil)
    (pss_cons (ps_if (pt_cmpR op_ne (pe_callB call_lenS (by rfl) X.f_len bb_len (pa_cons (pe_set (S := tupS [(p.high : Int), (p.wide : Int)]) (own := [("plane", 2)]) (g := gName 2) (Room.u70 hr) (by rfl) nd (pi_tup (pv 0)) (blkOk_by (N := ["thing", "depth", "plane", "row"]) (sc := defScope s_are_planes) (by decide +kernel))
      (fun _ _ _ _ _ => pg_name (i := 2) nd rfl (Or.inl rfl)) (fun _ _ _ _ _ => pts_nil) (fun _ _ _ _ _ => pe_tup (pa_cons (pe_len K rfl X.f_len (pv 2)) (pa_cons (pe_len K rfl X.f_len (pe_at K rfl (pv 2) pe_int)) pa_nil)))) pa_nil)) pe_int (nomark _)) (pss_one (ps_ret pe_bl)) pss_nil)
    (pss_one (ps_ret (pe_callB (cr_all rfl) (by rfl) X.f_all bb_all (pa_cons (pe_lc2 (own := [("plane", 2), ("row", 3)]) (vs1 := [3]) (g := gName 2) (g1 := gName 3) (wi1 := iTup K (tVar 2)) (by rfl) nd (pi_tup (pv 0)) (blkOk_by (N := ["thing", "depth", "plane", "row"]) (sc := defScope s_are_planes) (by decide +kernel)) (by simp)
      (fun _ _ _ _ _ => pg_name (i := 2) nd rfl (Or.inl rfl)) (fun _ _ _ _ _ => pts_nil) (fun _ _ _ _ _ => pi_tup (pv 2)) (fun _ _ _ _ _ => pg_name (i := 3) nd rfl (Or.inl rfl)) (fun _ _ _ _ _ => pts_nil) (fun _ _ _ _ _ => pe_h (ok_wholes (T := T) X) hr X.g_are_wholes (pa_cons (pv 3) (pa_cons pe_int (pa_cons (pv 1) pa_nil))))) pa_nil)))))), ?_⟩
  have hl : (rs.map V.ref).length = p.planes.length := by rw [List.length_map, hp.len]
  have n0 := ok.n0
  have n1 := ok.n1
  refine ⟨_, rfl, isi (ty_tup hs) k_tt ⟨_, rfl, iteF ?_⟩⟩
  refine ⟨_, rfl, _, _, rfl, .inr (SqT.of hs), _, _, rfl, rfl, _, rfl, iteD (fun _ => ?_) fun z => absurd (show (1 : Int) ≤ ((rs.map V.ref).length : Int) by omega) z⟩
  refine ⟨_, _, rfl, rfl, _, rfl, iteN (fun z => absurd (show ((rs.map V.ref).length : Int) ≤ 4 by omega) z) fun _ => ?_⟩
  have pl_at : ∀ (i : Nat) (x : V) (H1 : Hp), (rs.map V.ref)[i]? = some x → Kp T No H H1 → ∃ (r : Addr) (pl : List (List Int)), x = .ref r ∧ PlaneAt H1 r pl ∧ pl ∈ p.planes := fun i x H1 hx k => by
    have hi : i < p.planes.length := by
      have := (List.getElem?_eq_some_iff.mp hx).1
      omega
    obtain ⟨r, e1, e2⟩ := hp.get (List.getElem?_eq_getElem hi)
    refine ⟨r, p.planes[i], ?_, e2.keep k.tp, List.getElem_mem hi⟩
    rw [map_at e1] at hx
    exact (Option.some.inj hx).symm
  have h0 := ok.h0
  have h1 := ok.h1
  have w0 := ok.w0
  have w1 := ok.w1
  refine ⟨_, rfl, a, rfl, ⟨_, SqT.of hs⟩, fun D hD => lc_mapT (T := T) (M := No) (R := RT) (G := G0) hD hs True.intro (fun i x H1 hx pp => ?_) fun H1 acc k e el ha _ => ⟨D, List.replicate acc.length true, rfl, all_sq e ha, true, congrArg V.bl (all_true _), iteF ?_⟩⟩
  · obtain ⟨r, pl, rfl, hpl, hm⟩ := pl_at i x H1 hx pp.kp
    refine ⟨rfl, ?_⟩
    have l1 := ok.rows _ hm
    refine ⟨_, rfl, r, pl, p.wide, _, _, rfl, hpl, ⟨by omega, by omega, by omega⟩, ok.cols _ hm, ⟨w0, by omega⟩, fun H2 k2 => ?_⟩
    refine pp.next Tst.rt id hD k2 (line_big ?_) rfl fun _ => True.intro
    have := (List.getElem?_eq_some_iff.mp hx).1
    omega
  · refine ⟨_, rfl, a, rfl, ⟨_, SqT.of (k.tp _ _ hs)⟩, fun D2 hD2 => set_mapT (S := tupS [(p.high : Int), (p.wide : Int)]) (G := fun i l H => l.length = min i 1 ∧ ∀ x ∈ l, H x = some (.tup [.int p.high, .int p.wide])) hD2 (k.tp _ _ hs) ⟨rfl, fun x hx => nomatch hx⟩ (fun i x H2 hx pp => ?_) fun H2 st ex e2 g => ?_⟩
    · obtain ⟨r, pl, rfl, hpl, hm⟩ := pl_at i x H2 hx (k.tr (.of pp.ex))
      have l1 := ok.rows _ hm
      obtain ⟨rs2, r2, ht2, el2, er2, hrow⟩ := hpl.first (by omega)
      have hc : (pl.headD []).length = p.wide := ok.cols _ hm _ (by
        cases pl with
        | nil => simp at l1; omega
        | cons c d => exact List.mem_cons_self)
      refine ⟨rfl, ?_⟩
      refine ⟨_, rfl, _, _, rfl, .inr (SqT.of ht2), ?_⟩
      refine ⟨_, rfl, _, _, _, _, rfl, rfl, SqT.of ht2, atI_nat (j := 0) (map_at er2), _, _, rfl, .inr (SqT.of hrow), small2, fun t ht => ?_⟩
      rw [List.length_map, List.length_map, el2, l1, hc]
      obtain ⟨st0, hD0, _⟩ := pp.at_
      have tD : t ≠ D2 := fun z => by
        rw [z, hD0] at ht
        cases ht
      refine pp.next hD2 (fun b o z => (upd_ne (ne_of_none z ht)).trans z) (fun st g => ⟨?_, fun x hx => ?_, t, rfl, SqT.of upd_same⟩) fun st g => ⟨?_, fun x hx => ?_⟩
      · rw [g.1]
        omega
      · refine SqT.of ?_
        rw [upd_ne (ne_of_none (g.2 x hx) ht)]
        exact g.2 x hx
      · obtain ⟨g, _⟩ := g
        cases st with
        | nil =>
          show 1 = _
          omega
        | cons x l =>
          show (x :: l).length = _
          rw [List.length_cons] at g ⊢
          omega
      · have hh : x = t ∨ H2 x = some (.tup [.int p.high, .int p.wide]) := by
          cases st with
          | nil => exact .inl (List.mem_singleton.mp hx)
          | cons y l => exact .inr (g.2 x hx)
        rcases hh with rfl | hh
        · rw [upd_ne tD]
          exact upd_same
        · rw [upd_ne (ne_of hh hD0 fun z => nomatch z), upd_ne (ne_of_none hh ht)]
          exact hh
    · obtain ⟨g, _⟩ := g
      have e1 : (st.map fun x => (x, [(p.high : Int), (p.wide : Int)])).length = 1 := by
        rw [List.length_map, g]
        omega
      refine ⟨_, rfl, .inr ⟨_, e2, ?_⟩⟩
      rw [e1]
      refine ⟨rfl, _, rfl, iteN (fun z => absurd rfl z) fun _ => ?_⟩
      have k2 := k.tr (.of ex)
      refine ⟨_, rfl, a, rfl, ⟨_, SqT.of (k2.tp _ _ hs)⟩, fun D3 hD3 => ⟨fun i m H3 => m = (rs.map V.ref).length - i ∧ i ≤ (rs.map V.ref).length ∧ AccT T H2 D3 (i * p.high) H3, ⟨_, rfl, Nat.zero_le _, .start hD3⟩, ?_⟩⟩
      rintro i m H3 ⟨rfl, hi, A3⟩
      have sq : SqT K H3 a (rs.map V.ref) := SqT.of ((k2.tr A3.kp).tp _ _ hs)
      rcases Nat.lt_or_ge i (rs.map V.ref).length with lt | ge
      · refine .inr ⟨⟨_, _, sq, List.getElem?_eq_getElem lt⟩, AccT T H2 D3 ((i + 1) * p.high), fun H' a' => ⟨(rs.map V.ref).length - (i + 1), by omega, rfl, lt, a'⟩, fun x H4 y => ?_⟩
        obtain ⟨rfl, y⟩ := y
        obtain ⟨r, pl, rfl, ⟨rs3, ht3, hp3⟩, hm⟩ := pl_at i x H4 (y _ sq) (k2.tr A3.kp)
        have l1 := ok.rows _ hm
        have l3 : (rs3.map V.ref).length = p.high := by rw [List.length_map, hp3.len, l1]
        refine ⟨rfl, ?_⟩
        refine ⟨_, rfl, r, rfl, ⟨_, SqT.of ht3⟩, fun j m H5 => m = p.high - j ∧ j ≤ p.high ∧ AccT T H2 D3 (i * p.high + j) H5 ∧ TupK H4 H5, ⟨_, rfl, Nat.zero_le _, A3, fun _ _ z => z⟩, ?_⟩
        rintro j m H5 ⟨rfl, hj, A5, t5⟩
        have sq2 : SqT K H5 r (rs3.map V.ref) := SqT.of (t5 _ _ ht3)
        rcases Nat.lt_or_ge j p.high with lt2 | ge2
        · refine .inr ⟨⟨_, _, sq2, List.getElem?_eq_getElem (by omega)⟩, fun H6 => AccT T H2 D3 (i * p.high + (j + 1)) H6 ∧ TupK H4 H6, fun H' a' => ⟨p.high - (j + 1), by omega, rfl, lt2, a'⟩, fun x H6 y2 => ?_⟩
          obtain ⟨rfl, y2⟩ := y2
          have hj2 : j < pl.length := by omega
          obtain ⟨r6, e6, hrow⟩ := hp3.get (List.getElem?_eq_getElem hj2)
          have hx := y2 _ sq2
          rw [map_at e6] at hx
          obtain rfl := (Option.some.inj hx).symm
          have hmr : pl[j] ∈ pl := List.getElem_mem hj2
          refine ⟨rfl, ?_⟩
          refine ⟨_, rfl, _, rfl, r6, _, _, _, rfl, t5 _ _ hrow, fun n hn => ok.nums _ hm _ hmr n hn, by rw [ok.cols _ hm _ hmr]; omega, fun H7 k7 => ?_⟩
          obtain ⟨acc, e7, lt7, A7⟩ := A5.next hD3 k7 (by
            have : i < 4 := by omega
            have : i * p.high ≤ 4 * 48 := Nat.mul_le_mul (by omega) (by omega)
            exact line_big (by omega))
          refine ⟨acc, e7, lt7, A7, fun b xs z => ?_⟩
          rw [upd_ne (ne_of (k7.tp _ _ (t5 _ _ z)) e7 fun q => nomatch q)]
          exact k7.tp _ _ (t5 _ _ z)
        · obtain rfl : j = p.high := Nat.le_antisymm hj ge2
          refine .inl ⟨⟨_, sq2, by omega⟩, ?_⟩
          rw [Nat.succ_mul]
          exact A5
      · obtain rfl : i = (rs.map V.ref).length := Nat.le_antisymm hi ge
        obtain ⟨acc, e3, el, ha⟩ := A3.acc
        exact .inl ⟨⟨_, sq, Nat.le_refl _⟩, all_of e3 ha (q _ (k2.tr A3.kp))⟩
end
end K9

set_option maxHeartbeats 4000000
namespace K9
open PySem PySem.Spec PyProof.Rows L2 NdefX LamX
theorem pf {f : Str} {v : V} : ∀ {fs : List (Str × V)} {n : Nat}, fs.length < n → (putF f v fs).length < n + 1
  | [], n, h => Nat.succ_lt_succ h
  | (g, x) :: r, n, h => by
    unfold putF
    split
    · exact Nat.lt_succ_of_lt h
    · cases n with
      | zero => exact absurd h (Nat.not_lt_zero _)
      | succ n => exact Nat.succ_lt_succ (pf (Nat.lt_of_succ_lt_succ h))
section
variable {P : Program} {w : World} {K : PySem.W.Frag} {mg : Str → Option Value} {base : Heap} {T : List NTab}
abbrev picN : List Str := ["self", "planes", "left", "up", "depth"]
def spPicI (K : PySem.W.Frag) (T : List NTab) : Sp := fun vs H Q _ => ∃ (x dx t : Addr) (p : Pic), vs = [.ref x, .ref t, .int p.left, .int p.up, .int p.depth] ∧ H x = some (.ins (He.ga K "Picture") dx []) ∧ PlanesAt H t p.planes ∧ PicOk p ∧
  ∀ H', Kp T (On x) H H' → H' x = some (.ins (He.ga K "Picture") dx (picF t p)) → Q .non H'
theorem ok_pic (X : Tx w K mg) : ∃ fd, FnOk P w K mg base CX0 5 (He.ma K (He.ga K "Picture") "__init__") fd picN (spPicI K T) ∧ KBn K fd picN 2 ["left", "up", "depth"] (fun us ws => us ++ ws) (fun vs zs => vs ++ zs) := by
  obtain ⟨fd, D⟩ := X.def_ 8 (d := dd_Picture_init) rfl
  obtain ⟨mv, kb⟩ := FunD.kbinds0 (ps := picN) D 2 ["left", "up", "depth"] [] (fun us _ ws => us ++ ws) (List.cons_ne_nil _ _) (fun q hq => nomatch hq) (fun r1 _ r3 => r1.append r3) fun D doc pm an cdv ct us mv ws h1 h2 h3 => by
    match us, h1, mv, h2, ws, h3 with
    | [_, _], _, [], _, [_, _, _], _ =>
      show bindArgs _ _ = pure _
      kernel_rfl
  refine ⟨fd, D.ok sc_Picture_init (fun _ _ _ _ ⟨_, _, _, _, e, _⟩ => by rw [e]; rfl) fun cdv A outer s H vs Q E hr h => ?_, kb⟩
  obtain ⟨x, dx, t, p, rfl, hx, hp, ok, q⟩ := h
  have nd := sc_Picture_init.nd
  have fin : ∃ t', PSs (cxOf CX0 P w K mg base picN "Picture.__init__" (defScope s_Picture_init) (He.ma K (He.ga K "Picture") "__init__") cdv A outer s H E).nox (defBody s_Picture_init) t' ∧ t' { nx := fun _ H' => Q .non H', rt := Q } (start picN [.ref x, .ref t, .int p.left, .int p.up, .int p.depth]) H := by
    refine ⟨_, pss_cons (ps_if (PW.pt (pw_or (pt_not (pt_val (pe_h (ok_from X) hr X.g_is_from (pa_cons (pv 2) (pa_cons (pe_un un_neg (pe_gi X.i_FARTHEST)) (pa_cons (pe_gi X.i_FARTHEST) pa_nil)))))) (pw_or1 (pt_not (pt_val (pe_h (ok_from X) hr X.g_is_from (pa_cons (pv 3) (pa_cons (pe_un un_neg (pe_gi X.i_FARTHEST)) (pa_cons (pe_gi X.i_FARTHEST) pa_nil))))))))) (pss_one ps_never) pss_nil)
      (pss_cons (ps_if (PW.pt (pw_or (pt_not (pt_val (pe_h (ok_from X) hr X.g_is_from (pa_cons (pv 4) (pa_cons pe_int (pa_cons (pe_gi X.i_DEEPEST) pa_nil)))))) (pw_or1 (pt_not (pt_val (pe_h (ok_planes (T := T) X) hr X.g_are_planes (pa_cons (pv 1) (pa_cons (pv 4) pa_nil)))))))) (pss_one ps_never) pss_nil)
      (pss_cons (ps_fld (pv 0) (pv 1) rfl) (pss_cons (ps_fld (pv 0) (pv 2) rfl) (pss_cons (ps_fld (pv 0) (pv 3) rfl) (pss_one (ps_fld (pv 0) (pv 4) rfl)))))), ?_⟩
    refine ⟨_, rfl, _, rfl, .inl ⟨_, _, _, rfl, ok.l0, _, rfl, iteF ?_⟩⟩
    refine ⟨_, rfl, _, rfl, .inl ⟨_, _, _, rfl, ok.u0, _, rfl, iteF ?_⟩⟩
    refine ⟨_, rfl, .inl ⟨_, _, _, rfl, ⟨ok.d0, ok.d1⟩, _, rfl, iteF ?_⟩⟩
    refine ⟨_, rfl, _, rfl, t, p, rfl, hp, ok, fun H1 k1 => ⟨_, rfl, iteF ?_⟩⟩
    have h1 := k1.ins hx id
    refine ⟨_, rfl, _, rfl, _, _, _, _, rfl, h1, X.c_Picture, X.n_Picture_planes, by decide, ?_⟩
    refine ⟨_, rfl, _, rfl, _, _, _, _, rfl, upd_same, X.c_Picture, X.n_Picture_left, pf (n := 999) (by decide), ?_⟩
    refine ⟨_, rfl, _, rfl, _, _, _, _, rfl, upd_same, X.c_Picture, X.n_Picture_up, pf (n := 999) (pf (n := 998) (by decide)), ?_⟩
    refine ⟨_, rfl, _, rfl, _, _, _, _, rfl, upd_same, X.c_Picture, X.n_Picture_depth, pf (n := 999) (pf (n := 998) (pf (n := 997) (by decide))), ?_⟩
    have e : putF "depth" (V.int p.depth) (putF "up" (V.int p.up) (putF "left" (V.int p.left) (putF "planes" (V.ref t) []))) = picF t p := by
      first | rfl | simp [putF, picF]
    refine q _ ((((k1.any.tr (.put h1 True.intro)).tr (.put (o := .ins _ _ _) upd_same True.intro)).tr (.put (o := .ins _ _ _) upd_same True.intro)).tr (.put (o := .ins _ _ _) upd_same True.intro)) ?_
    rw [← e]
    exact upd_same
  obtain ⟨t', p1, q1⟩ := fin
  exact ⟨t', p1.nox, q1⟩
theorem pe_pic {Y : Cx} {j : Nat} {e : Expr} {kws : List Keyword} {t tk : TA} {p pos : Pos} (X : Tx w K mg) (hK : Y.K = K) (hw : Y.w = w) (hm : Y.mg = mg) (hr : Room j Y.A) (ha : PA Y [e] t) (hkw : PK Y kws tk) (hk : 6 ≤ j := by omega) (hg : Gl Y "Picture" := by rfl)
    (hall : (backToKw pos (keywordEach kws Y.env)).all (·.1.isSome) = true := by rfl) (hks : (backToKw pos (keywordEach kws Y.env)).filterMap (·.1) = (["left", "up", "depth"] : List Str) := by rfl)
    (he : starEach [e] Y.env = (false, eval e Y.env) :: starEach [] Y.env := by rfl) (hpl : ((backTo pos (starEach [e] Y.env)).any (·.1) || (backToKw pos (keywordEach kws Y.env)).any (·.1.isNone)) = false := by rfl) :
    PE Y (.Call (.Name "Picture" p) [e] kws pos) (tMakeK (He.ga K "Picture") 1 3 (spPicI K T) (fun vs zs => vs ++ zs) E0 t tk) := by
  subst hK hw hm
  obtain ⟨fd, F, kb⟩ := ok_pic (P := Y.prog) (base := Y.base) (T := T) X
  exact pe_makeK (CX := CX0) (n := 1) X.m_Picture F (hr.mono hk) hg X.g_Picture kb pass0 ha hkw hall hks (by decide) he hpl
end
end K9

set_option maxHeartbeats 4000000
namespace K9
open PySem PySem.Spec PyProof.Rows L2 NdefX LamX
def Stg.nargs : Stg → Nat
  | .source _ _ => 0
  | _ => 1
def Stg.tlen : Stg → Nat
  | .source _ _ => 3
  | .framed _ _ => 4
  | .moved _ _ => 4
  | .flipped _ => 3
  | .turned => 2
  | .curved _ _ => 4
def madeV (s : Stg) (of : Str) : List Str := if s.nargs = 0 then [] else [of]
theorem cut1 (k : V) (r : List V) (n : Nat) : cutV (k :: r) (some 1) (some (1 + (n : Int))) = r.take n := by
  unfold cutV
  have e1 : HT.sIx (k :: r).length 0 (some 1) = 1 := by
    rw [show (1 : Int) = ((1 : Nat) : Int) from rfl, HT.sIx_nat, List.length_cons]
    omega
  have e2 : HT.sIx (k :: r).length (k :: r).length (some (1 + (n : Int))) = min (1 + n) (r.length + 1) := by
    rw [show (1 + (n : Int)) = ((1 + n : Nat) : Int) by omega, HT.sIx_nat, List.length_cons]
  rw [e1, e2]
  show r.take _ = _
  rw [List.take_eq_take_iff]
  omega
theorem cut1_no (k : V) (r : List V) (o : Option Int) : ¬ (HT.sIx (k :: r).length 0 (some 1) = 0 ∧ HT.sIx (k :: r).length (k :: r).length o = (k :: r).length) := fun z => by
  have e := z.1
  rw [show (1 : Int) = ((1 : Nat) : Int) from rfl, HT.sIx_nat, List.length_cons] at e
  omega
theorem StgAt.tup2 {K : PySem.W.Frag} {H : Hp} {a : Addr} {of : Str} {s : Stg} (h : StgAt K H a of s) : ∃ r, H a = some (.tup (.str s.kind :: r)) ∧ r.length + 1 = s.tlen ∧ r.take s.nargs = (madeV s of).map V.str := by
  cases s with
  | source p b => obtain ⟨pa, e, _⟩ := h; exact ⟨_, e, rfl, rfl⟩
  | framed p b => obtain ⟨pa, e, _⟩ := h; exact ⟨_, e, rfl, rfl⟩
  | moved r d => exact ⟨_, h, rfl, rfl⟩
  | flipped b => exact ⟨_, h, rfl, rfl⟩
  | turned => exact ⟨_, h, rfl, rfl⟩
  | curved t dp => obtain ⟨pa, e, _⟩ := h; exact ⟨_, e, rfl, rfl⟩
section
variable {P : Program} {w : World} {K : PySem.W.Frag} {mg : Str → Option Value} {base : Heap} {T : List NTab} {M : Addr → Prop}
theorem spForm_imp {g g' : Stg → Prop} (i : ∀ s, g' s → g s) : ∀ vs H Q E, spForm K T g' vs H Q E → spForm K T g vs H Q E := fun vs H Q E ⟨sa, of, s, b, n, d, h, r⟩ => ⟨sa, of, s, b, n, d, i _ h, r⟩
theorem spShape_imp {g g' : Stg → Prop} (i : ∀ s, g' s → g s) : ∀ vs H Q E, spShape K T g' vs H Q E → spShape K T g vs H Q E := fun vs H Q E ⟨sa, sh, of, s, b, n, d, h, r⟩ => ⟨sa, sh, of, s, b, n, d, i _ h, r⟩
theorem spTell_imp {spl : Addr → NF → Sp} {g g' : Stg → Prop} (i : ∀ s, g' s → g s) : ∀ vs H Q E, spTell K T M spl g' vs H Q E → spTell K T M spl g vs H Q E := fun vs H Q E ⟨sa, sh, f, F, x, y, p, of, s, b, n, d, PG, h, r⟩ => ⟨sa, sh, f, F, x, y, p, of, s, b, n, d, PG, i _ h, r⟩
/-- a kind's row in the table -/
structure RowIs (P : Program) (w : World) (K : PySem.W.Frag) (mg : Str → Option Value) (base : Heap) (T : List NTab) (s : Stg) (f1 f2 f3 f5 : Addr) : Prop where
  at_ : ∀ H, SqT K H (rowAd s.kind K) [.int s.nargs, .int s.tlen, .ref f1, .ref f2, .ref f3, .ref f5]
  kd : KDct K w (He.ga K "GEOMETRY") s.kind (.ref (rowAd s.kind K))
  form : Hd P w K mg base 4 f1 (spForm K T (· = s))
  shape : Hd P w K mg base 2 f2 (spShape K T (· = s))
  tell : ∀ (M : Addr → Prop) (kl : Nat) (spl : Addr → NF → Sp), Cal P w K mg base kl spl → Hd P w K mg base (kl + 3) f5 (spTell K T M spl (· = s))
theorem Tx.rowIs (X : Tx w K mg) (s : Stg) : ∃ f1 f2 f3 f5, RowIs P w K mg base T s f1 f2 f3 f5 := by
  cases s with
  | source p b =>
    have h := X.geo (x := "source") (l := row_source) (by simp [rows])
    exact ⟨_, _, _, _, h.2, h.1, (ok_is_source X).imp (spForm_imp fun s e => ⟨_, _, e⟩), (ok_shape_of_source X).imp (spShape_imp fun s e => ⟨_, _, e⟩), fun M kl spl C => ((ok_tell_source X).imp (spTell_imp fun s e => ⟨_, _, e⟩)).mono (by omega)⟩
  | framed p b =>
    have h := X.geo (x := "framed") (l := row_framed) (by simp [rows])
    exact ⟨_, _, _, _, h.2, h.1, (ok_is_framed X).imp (spForm_imp fun s e => ⟨_, _, e⟩), (ok_shape_of_framed X).imp (spShape_imp fun s e => ⟨_, _, e⟩), fun M kl spl C => ((ok_tell_framed X C).imp (spTell_imp fun s e => ⟨_, _, e⟩)).mono (by omega)⟩
  | moved p b =>
    have h := X.geo (x := "moved") (l := row_moved) (by simp [rows])
    exact ⟨_, _, _, _, h.2, h.1, ((ok_is_moved X).imp (spForm_imp fun s e => ⟨_, _, e⟩)).mono (by omega), ((ok_same_shape X).imp (spShape_imp fun s e => .inl ⟨_, _, e⟩)).mono (by omega), fun M kl spl C => ((ok_tell_cell X C).imp (spTell_imp fun s e => .inl ⟨_, _, e⟩)).mono (by omega)⟩
  | flipped b =>
    have h := X.geo (x := "flipped") (l := row_flipped) (by simp [rows])
    exact ⟨_, _, _, _, h.2, h.1, ((ok_is_flipped X).imp (spForm_imp fun s e => ⟨_, e⟩)).mono (by omega), ((ok_same_shape X).imp (spShape_imp fun s e => .inr (.inl ⟨_, e⟩))).mono (by omega), fun M kl spl C => ((ok_tell_cell X C).imp (spTell_imp fun s e => .inr (.inl ⟨_, e⟩))).mono (by omega)⟩
  | turned =>
    have h := X.geo (x := "turned") (l := row_turned) (by simp [rows])
    exact ⟨_, _, _, _, h.2, h.1, ((ok_is_turned X).imp (spForm_imp fun s e => e)).mono (by omega), ((ok_same_shape X).imp (spShape_imp fun s e => .inr (.inr e))).mono (by omega), fun M kl spl C => ((ok_tell_cell X C).imp (spTell_imp fun s e => .inr (.inr e))).mono (by omega)⟩
  | curved t dp =>
    have h := X.geo (x := "curved") (l := row_curved) (by simp [rows])
    exact ⟨_, _, _, _, h.2, h.1, (ok_is_curved X).imp (spForm_imp fun s e => ⟨_, _, e⟩), ((ok_shape_of_curved X).imp (spShape_imp fun s e => ⟨_, _, e⟩)).mono (by omega), fun M kl spl C => ((ok_tell_curved X C).imp (spTell_imp fun s e => ⟨_, _, e⟩)).mono (by omega)⟩
theorem kind_geo (s : Stg) : s.kind ∈ geoKeys := by cases s <;> simp [Stg.kind, geoKeys]
def spRow (K : PySem.W.Frag) : Sp := fun vs H Q _ => ∃ s : Stg, vs = [.str s.kind] ∧ Q (.ref (rowAd s.kind K)) H
theorem ok_row_of (X : Tx w K mg) : Hd P w K mg base 1 (He.ga K "row_of") (spRow K) := by
  refine mk_hd X.F_row_of sc_row_of (fun _ _ _ _ ⟨_, e, _⟩ => by rw [e]; rfl) (fun cdv A outer s H vs Q E hr h => ?_)
  obtain ⟨st, rfl, q⟩ := h
  have nd := sc_row_of.nd
  obtain ⟨f1, f2, f3, f5, R⟩ := X.rowIs (P := P) (base := base) (T := []) st
  obtain ⟨es, n, D⟩ := X.tab 0 rfl
  refine ⟨_, pss_cons (ps_for PassesOwn.never rfl (pi_tup (pe_gf X.g_TABLES)) (pg_name (i := 1) nd rfl (.inl rfl)) (pss_one (ps_if (pt_cmpR (op_in_kd D) (pv 0) (pv 1) rfl) (pss_one (ps_ret (pe_ix ix_kdict (pv 1) (pv 0) (fun _ _ => rfl)))) pss_nil))) (pss_one (ps_ret pe_non)), ?_⟩
  refine ⟨_, rfl, ⟨_, X.tables H⟩, for_tup (Pv := fun i σ H' => i = 0 ∧ σ = start ["kind", "table"] [.str st.kind] ∧ H' = H) ⟨rfl, rfl, rfl⟩ (fun i σ H' _ p => by rw [p.2.2]; exact X.tables H) (fun i x σ H' hx p => ?_) fun σ H' p => ?_⟩
  · obtain ⟨rfl, rfl, rfl⟩ := p
    obtain rfl := (Option.some.inj hx).symm
    have hk := R.kd
    obtain ⟨es', n', u, h1, h2, h3, h4⟩ := hk
    refine ⟨_, rfl, _, rfl, st.kind, some u, rfl, rfl, h3, _, rfl, iteT ?_⟩
    exact ⟨_, rfl, _, rfl, _, _, _, rfl, rfl, R.kd, q⟩
  · exact absurd p.1 (by show ¬ ((5 : Nat) = 0); decide)
def spIsStg (K : PySem.W.Frag) (T : List NTab) : Sp := fun vs H Q _ => ∃ sa of s below n d, vs = [.ref sa] ∧ StgAt K H sa of s ∧ ChOk (s :: below) n d ∧ (s.nargs = 1 → NameOk of) ∧ ∀ H', Kp T No H H' → Q (.bl true) H'
theorem ok_is_stage (X : Tx w K mg) : Hd P w K mg base 5 (He.ga K "is_stage") (spIsStg K T) := by
  refine mk_hd X.F_is_stage sc_is_stage (fun _ _ _ _ ⟨_, _, _, _, _, _, e, _⟩ => by rw [e]; rfl) (fun cdv A outer s H vs Q E hr h => ?_)
  obtain ⟨sa, of, st, below, n, d, rfl, hs, ok, hn, q⟩ := h
  have nd := sc_is_stage.nd
  obtain ⟨f1, f2, f3, f5, R⟩ := X.rowIs (P := P) (base := base) (T := T) st
  obtain ⟨r, ht, hl, hm⟩ := hs.tup2
  refine ⟨_, pss_cons (ps_if (PW.pt (pw_or (pt_not (pt_val (pe_is X.f_isinstance X.f_tuple (pv 0) bb_tuple))) (pw_or (pt_cmpR op_eq (pe_callB call_len_seq (by rfl) X.f_len bb_len (pa_cons (pv 0) pa_nil)) pe_int (nomark _)) (pw_or1 (pt_not (pt_val (pe_is X.f_isinstance X.f_str (pe_ix ix_tup (pv 0) pe_int (fun _ _ => rfl)) bb_str))))))) (pss_one (ps_ret pe_bl)) pss_nil)
    (pss_cons (ps_set (i := 1) nd rfl (.inl rfl) (pe_h (ok_row_of X) hr X.g_row_of (pa_cons (pe_ix ix_tup (pv 0) pe_int (fun _ _ => rfl)) pa_nil)))
    (pss_cons (ps_if (PW.pt (pw_or (pt_cmpR op_isN (pv 1) pe_non (nomark _)) (pw_or1 (pt_cmpR op_ne (pe_callB call_len_seq (by rfl) X.f_len bb_len (pa_cons (pv 0) pa_nil)) (pe_ix ix_tup (pv 1) pe_int (fun _ _ => rfl)) (nomark _))))) (pss_one (ps_ret pe_bl)) pss_nil)
    (pss_cons (ps_set (i := 2) nd rfl (.inl rfl) (pe_ix ix_tup (pv 1) pe_int (fun _ _ => rfl)))
    (pss_one (ps_ret (pe_and (pe_callB (cr_all rfl) (by rfl) X.f_all bb_all (pa_cons (pe_lc (own := [("name", 3)]) (g := gName 3) (by rfl) nd (pi_tup (pe_slice sl_tup (pv 0) (po_some pe_int) (po_some (pe_op op_add pe_int (pe_ix ix_tup (pv 1) pe_int (fun _ _ => rfl)))))) (blkOk_by (N := ["thing", "row", "has_form", "name"]) (sc := defScope s_is_stage) (by decide +kernel))
      (fun _ _ _ _ _ => pg_name (i := 3) nd rfl (Or.inl rfl)) (fun _ _ _ _ _ => pts_nil) (fun _ _ _ _ _ => pe_h (ok_name (T := T) X) hr X.g_is_name (pa_cons (pv 3) pa_nil))) pa_nil)) (pe_one (pe_callV (k := 4) (i := 2) hr rfl (.inl rfl) (pa_cons (pv 0) pa_nil))))))))), ?_⟩
  have len : (V.str st.kind :: r).length = st.tlen := hl
  have pos : 1 ≤ st.tlen := by cases st <;> simp [Stg.tlen]
  refine ⟨_, rfl, isi (ty_tup ht) k_tt ⟨_, rfl, iteF ?_⟩⟩
  refine ⟨_, rfl, _, _, rfl, .inr (SqT.of ht), rfl, _, rfl, iteD (fun z => ?_) fun _ => ?_⟩
  · have z := V.int.inj z
    omega
  refine ⟨_, rfl, _, _, _, _, rfl, rfl, SqT.of ht, atI_nat (j := 0) rfl, isi (ty_str _) k_ss ⟨_, rfl, iteF ?_⟩⟩
  refine ⟨_, rfl, _, _, _, _, rfl, rfl, SqT.of ht, atI_nat (j := 0) rfl, st, rfl, ?_⟩
  refine ⟨_, rfl, rfl, _, rfl, iteD (fun z => nomatch z) fun _ => ?_⟩
  refine ⟨_, rfl, _, _, rfl, .inr (SqT.of ht), _, rfl, _, _, _, _, rfl, rfl, R.at_ _, atI_nat (j := 1) rfl, rfl, _, rfl, iteN (fun z => absurd (show V.int ((V.str st.kind :: r).length : Int) = V.int (st.tlen : Int) by rw [len]) z) fun _ => ?_⟩
  refine ⟨_, rfl, _, _, _, _, rfl, rfl, R.at_ _, atI_nat (j := 2) rfl, ?_⟩
  refine ⟨_, rfl, _, rfl, _, rfl, _, _, _, _, rfl, rfl, R.at_ _, atI_nat (j := 0) rfl, _, _, rfl, rfl, _, rfl, _, _, rfl, SqT.of ht, cut1_no _ _ _, fun t ht2 => ?_⟩
  rw [cut1, hm]
  have k1 : Kp T No H (upd H t (.tup ((madeV st of).map V.str))) := .new ht2
  refine ⟨t, rfl, ⟨_, SqT.of upd_same⟩, fun D hD => lc_mapT (T := T) (M := No) (R := RT) (G := G0) hD upd_same True.intro (fun i x H1 hx p => ?_) fun H1 acc k e el ha _ => ⟨D, List.replicate acc.length true, rfl, all_sq e ha, true, congrArg V.bl (all_true _), iteT ?_⟩⟩
  · have hx2 : x = .str of ∧ st.nargs = 1 := by
      unfold madeV at hx
      split at hx
      · simp at hx
      · rename_i z
        have e0 : st.nargs = 1 := by cases st <;> first | rfl | exact absurd rfl z
        match i, hx with
        | 0, hx => exact ⟨(Option.some.inj hx).symm, e0⟩
    obtain ⟨rfl, e0⟩ := hx2
    refine ⟨rfl, ?_⟩
    refine ⟨_, rfl, of, rfl, hn e0, fun H2 k2 => ?_⟩
    refine p.next Tst.rt id hD k2 (line_big ?_) rfl fun _ => True.intro
    have l1 := (List.getElem?_eq_some_iff.mp hx).1
    rw [List.length_map] at l1
    unfold madeV at l1
    split at l1
    · exact absurd l1 (Nat.not_lt_zero _)
    · have : [of].length = 1 := rfl
      omega
  · have k2 := k1.tr k
    refine ⟨f1, _, rfl, R.form, _, rfl, sa, of, st, below, n, d, rfl, rfl, hs.kp k2 NoPic.no, ok, fun H2 k3 => ?_⟩
    exact q _ (k2.tr k3)
end
end K9

set_option maxHeartbeats 4000000
namespace K9
open PySem PySem.Spec PyProof.Rows L2 NdefX LamX
section
variable {P : Program} {w : World} {K : PySem.W.Frag} {mg : Str → Option Value} {base : Heap} {T : List NTab} {M : Addr → Prop} {spl : Addr → NF → Sp} {kl : Nat}
def spNoDiv (K : PySem.W.Frag) : Sp := fun vs H Q _ => ∃ sa of s, vs = [.ref sa] ∧ StgAt K H sa of s ∧ Q (.bl false) H
theorem ok_no_div (X : Tx w K mg) : Hd P w K mg base 1 (He.ga K "has_no_divisor") (spNoDiv K) := by
  refine mk_hd X.F_has_no_divisor sc_has_no_divisor (fun _ _ _ _ ⟨_, _, _, e, _⟩ => by rw [e]; rfl) (fun cdv A outer s H vs Q E hr h => ?_)
  obtain ⟨sa, of, st, rfl, hs, q⟩ := h
  obtain ⟨r, ht, hl, hm⟩ := hs.tup2
  obtain ⟨es, n, D⟩ := X.tab 2 rfl
  refine ⟨_, pss_one (ps_ret (pe_and (pe_cmpR (op_in_kd D) (pe_ix ix_tup (pv 0) pe_int (fun _ _ => rfl)) (pe_gf X.g_PLACES_OF_BY) rfl) (pe_one (pe_cmpR op_eq (pe_ix ix_tup (pv 0) (pe_ix ix_kdict (pe_gf X.g_PLACES_OF_BY) (pe_ix ix_tup (pv 0) pe_int (fun _ _ => rfl)) (fun _ _ => rfl)) (fun _ _ => rfl)) pe_int (nomark _))))), ?_⟩
  exact ⟨_, rfl, _, _, _, _, rfl, rfl, SqT.of ht, atI_nat (j := 0) rfl, st.kind, none, rfl, rfl, X.noBy (kind_geo st), _, rfl, iteF q⟩
def spMade (K : PySem.W.Frag) (T : List NTab) : Sp := fun vs H Q _ => ∃ sa of s, vs = [.ref sa] ∧ StgAt K H sa of s ∧ ∀ l H', H l = none → Kp T No H H' → H' l = some (.lst ((madeV s of).map V.str)) → Q (.ref l) H'
theorem ok_made (X : Tx w K mg) : Hd P w K mg base 2 (He.ga K "made_of") (spMade K T) := by
  refine mk_hd X.F_made_of sc_made_of (fun _ _ _ _ ⟨_, _, _, e, _⟩ => by rw [e]; rfl) (fun cdv A outer s H vs Q E hr h => ?_)
  obtain ⟨sa, of, st, rfl, hs, q⟩ := h
  obtain ⟨r, ht, hl, hm⟩ := hs.tup2
  obtain ⟨f1, f2, f3, f5, R⟩ := X.rowIs (P := P) (base := base) (T := T) st
  refine ⟨_, pss_one (ps_ret (pe_callTy call_list_of (by rfl) X.f_list bb_list (pa_cons (pe_slice sl_tup (pv 0) (po_some pe_int) (po_some (pe_op op_add pe_int (pe_ix ix_tup (pe_h (ok_row_of X) hr X.g_row_of (pa_cons (pe_ix ix_tup (pv 0) pe_int (fun _ _ => rfl)) pa_nil)) pe_int (fun _ _ => rfl))))) pa_nil))), ?_⟩
  refine ⟨_, rfl, _, rfl, _, rfl, _, _, _, _, rfl, rfl, SqT.of ht, atI_nat (j := 0) rfl, st, rfl, ?_⟩
  refine ⟨_, _, _, _, rfl, rfl, R.at_ _, atI_nat (j := 0) rfl, _, _, rfl, rfl, _, rfl, _, _, rfl, SqT.of ht, cut1_no _ _ _, fun t ht2 => ?_⟩
  rw [cut1, hm]
  refine ⟨t, _, rfl, .inr (SqT.of upd_same), fun l hl2 => ?_⟩
  have hl3 := upd_none hl2
  exact q l _ hl3 ((Kp.new ht2).tr (.new hl2)) upd_same
theorem ok_shape_by (X : Tx w K mg) : Hd P w K mg base 3 (He.ga K "shape_by") (spShape K T fun _ => True) := by
  refine mk_hd X.F_shape_by sc_shape_by (fun _ _ _ _ ⟨_, _, _, _, _, _, _, _, e, _⟩ => by rw [e]; rfl) (fun cdv A outer s H vs Q E hr h => ?_)
  obtain ⟨sa, shs, of, st, below, n, d, _, rfl, hs, ok, hsh, q⟩ := h
  have nd := sc_shape_by.nd
  obtain ⟨r, ht, hl, hm⟩ := hs.tup2
  obtain ⟨f1, f2, f3, f5, R⟩ := X.rowIs (P := P) (base := base) (T := T) st
  refine ⟨_, pss_cons (ps_set (i := 2) nd rfl (.inl rfl) (pe_ix ix_tup (pe_h (ok_row_of X) hr X.g_row_of (pa_cons (pe_ix ix_tup (pv 0) pe_int (fun _ _ => rfl)) pa_nil)) pe_int (fun _ _ => rfl)))
    (pss_one (ps_ret (pe_callV (k := 2) (i := 2) hr rfl (.inl rfl) (pa_cons (pv 0) (pa_cons (pv 1) pa_nil))))), ?_⟩
  refine ⟨_, rfl, _, _, _, _, rfl, rfl, SqT.of ht, atI_nat (j := 0) rfl, st, rfl, ?_⟩
  refine ⟨_, _, _, _, rfl, rfl, R.at_ _, atI_nat (j := 3) rfl, ?_⟩
  exact ⟨f2, _, rfl, R.shape, _, rfl, _, rfl, sa, shs, of, st, below, n, d, rfl, rfl, hs, ok, hsh, q⟩
theorem ok_told_by (X : Tx w K mg) (C : Cal P w K mg base kl spl) : Hd P w K mg base (kl + 4) (He.ga K "told_by") (spTell K T M spl fun _ => True) := by
  refine mk_hd X.F_told_by sc_told_by (fun _ _ _ _ ⟨_, _, _, _, _, _, _, _, _, _, _, _, _, _, e, _⟩ => by rw [e]; rfl) (fun cdv A outer s H vs Q E hr h => ?_)
  obtain ⟨sa, sh, f, F, x, y, p, of, st, below, n, d, PG, _, rfl, rest⟩ := h
  have hs := rest.2.2.1
  have nd := sc_told_by.nd
  obtain ⟨r, ht, hl, hm⟩ := hs.tup2
  obtain ⟨f1, f2, f3, f5, R⟩ := X.rowIs (P := P) (base := base) (T := T) st
  refine ⟨_, pss_cons (ps_set (i := 6) nd rfl (.inl rfl) (pe_ix ix_tup (pe_h (ok_row_of X) hr X.g_row_of (pa_cons (pe_ix ix_tup (pv 0) pe_int (fun _ _ => rfl)) pa_nil)) pe_int (fun _ _ => rfl)))
    (pss_one (ps_ret (pe_callV (k := kl + 3) (i := 6) hr rfl (.inl rfl) (pa_cons (pv 0) (pa_cons (pv 1) (pa_cons (pv 2) (pa_cons (pv 3) (pa_cons (pv 4) (pa_cons (pv 5) pa_nil))))))))), ?_⟩
  refine ⟨_, rfl, _, _, _, _, rfl, rfl, SqT.of ht, atI_nat (j := 0) rfl, st, rfl, ?_⟩
  refine ⟨_, _, _, _, rfl, rfl, R.at_ _, atI_nat (j := 5) rfl, ?_⟩
  exact ⟨f5, _, rfl, R.tell M kl spl C, _, rfl, _, rfl, _, rfl, _, rfl, _, rfl, _, rfl, sa, sh, f, F, x, y, p, of, st, below, n, d, PG, rfl, rfl, rest⟩
def spFirst (K : PySem.W.Frag) (T : List NTab) : Sp := fun vs H Q _ => ∃ sa d kvs of s, vs = [.ref sa, .ref d] ∧ StgAt K H sa of s ∧ H d = some (.dK kvs) ∧ (∀ x ∈ madeV s of, ∃ v, valV kvs (.inr x) = some v) ∧ ∀ H', Kp T No H H' → Q .non H'
theorem ok_first (X : Tx w K mg) : Hd P w K mg base 3 (He.ga K "first_missing") (spFirst K T) := by
  refine mk_hd X.F_first_missing sc_first_missing (fun _ _ _ _ ⟨_, _, _, _, _, e, _⟩ => by rw [e]; rfl) (fun cdv A outer s H vs Q E hr h => ?_)
  obtain ⟨sa, d, kvs, of, st, rfl, hs, hd, hm, q⟩ := h
  have nd := sc_first_missing.nd
  refine ⟨_, pss_cons (ps_for PassesOwn.never rfl (pi_list (pe_h (ok_made (T := T) X) hr X.g_made_of (pa_cons (pv 0) pa_nil))) (pg_name (i := 2) nd rfl (.inl rfl)) (pss_one (ps_if (pt_cmp (pc_dnotin (hu_of hr) (pv 2) (pv 1))) (pss_one (ps_ret (pv 2))) pss_nil))) (pss_one (ps_ret pe_non)), ?_⟩
  refine ⟨_, rfl, sa, of, st, rfl, hs, fun l H1 hl k1 h1 => ⟨l, rfl, ⟨_, SqL.of h1⟩, ?_⟩⟩
  refine for_list (xs := (madeV st of).map V.str) (Pv := fun i σ H' => (∃ v, σ = [some (.ref sa), some (.ref d), v]) ∧ H' = H1) ⟨⟨_, rfl⟩, rfl⟩ (fun i σ H' _ p => by rw [p.2]; exact SqL.of h1) (fun i x σ H' hx p => ?_) fun σ H' p => ?_
  · obtain ⟨⟨v, rfl⟩, rfl⟩ := p
    rw [List.getElem?_map] at hx
    cases e : (madeV st of)[i]? with
    | none => rw [e] at hx; cases hx
    | some y =>
      rw [e] at hx
      obtain rfl := (Option.some.inj hx).symm
      obtain ⟨v2, e2⟩ := hm y (List.mem_of_getElem? e)
      refine ⟨_, rfl, _, rfl, d, _, rfl, DGet.k (k := .inr y) (k1.dK hd id), ?_⟩
      rw [e2]
      exact ⟨_, rfl, iteF ⟨⟨_, rfl⟩, rfl⟩⟩
  · obtain ⟨⟨v, rfl⟩, rfl⟩ := p
    exact q _ k1
end
end K9

set_option maxHeartbeats 4000000
namespace K9
open PySem PySem.Spec PyProof.Rows L2 NdefX LamX
/-! ### lists of texts as data -/
theorem dp_strs {K : PySem.W.Frag} {H : Hp} : ∀ xs : List Str, DpAll K H (xs.map V.str) (xs.map PyData.str)
  | [] => .nil
  | x :: xs => .cons (.str x) (dp_strs xs)
theorem dp_sl {K : PySem.W.Frag} {H : Hp} {a : Addr} {xs : List Str} (h : H a = some (.lst (xs.map V.str))) : Dp K H (.ref a) (.list (xs.map PyData.str)) := .lst (SqL.of h) (dp_strs xs)
theorem NameOk.strOk {x : Str} (h : NameOk x) : PyData.strOk x = true := by
  unfold PyData.strOk
  rw [Array.all_eq_true']
  intro c hc
  have := (h.low c (by simpa using hc)).2
  exact decide_eq_true (by omega)
theorem shaped_strs {xs : List Str} (h : ∀ x ∈ xs, NameOk x) : SeqAt.shaped (.list (xs.map PyData.str)) = true := by
  have h1 : ∀ xs : List Str, (∀ x ∈ xs, NameOk x) → PyData.canLayAll0 (xs.map PyData.str) = true := fun xs => by
    induction xs with
    | nil => intro _; simp [PyData.canLayAll0]
    | cons x xs ih =>
      intro h
      simp only [List.map_cons, PyData.canLayAll0, PyData.canLay0, Bool.and_eq_true]
      exact ⟨(h x List.mem_cons_self).strOk, ih fun y hy => h y (List.mem_cons_of_mem _ hy)⟩
  have h2 : ∀ xs : List Str, PyData.depthAll (xs.map PyData.str) ≤ 1 := fun xs => by
    induction xs with
    | nil => simp [PyData.depthAll]
    | cons x xs ih =>
      simp only [List.map_cons, PyData.depthAll, PyData.depth]
      omega
  have h3 := h2 xs
  show (PyData.canLay0 (.list (xs.map PyData.str)) && decide (PyData.depth (.list (xs.map PyData.str)) ≤ 64)) = true
  rw [Bool.and_eq_true]
  refine ⟨by simp only [PyData.canLay0]; exact h1 xs h, decide_eq_true ?_⟩
  simp only [PyData.depth]
  omega
theorem eqv_nil {xs : List Str} : PyData.eqv (.list (xs.map PyData.str)) (.list (([] : List Str).map PyData.str)) = xs.isEmpty := by
  cases xs <;> rfl
theorem flat_str (xs : List Str) : (xs.map V.str).all flatV = true := by
  induction xs with
  | nil => rfl
  | cons x xs ih => simpa [flatV] using ih
theorem inV_str (x : Str) (xs : List Str) : inV (.str x) (xs.map V.str) = decide (x ∈ xs) := by
  induction xs with
  | nil => rfl
  | cons y ys ih =>
    unfold inV at ih ⊢
    rw [List.map_cons, List.any_cons, ih]
    have e : eqV (.str y) (.str x) = decide (y = x) := by
      show (y == x) = _
      by_cases h : y = x
      · rw [h]; simp
      · simp [h]
    rw [e]
    by_cases h : y = x
    · simp [h]
    · have h2 : ¬ x = y := fun z => h z.symm
      simp [h, h2]
/-- the stages of a net, in their order -/
structure Stgs (K : PySem.W.Frag) (H : Hp) (kvs : List (Key × V)) (nm : List Str) (ss : List Stg) : Prop where
  len : nm.length = ss.length
  nd : nm.Nodup
  few : nm.length ≤ 24
  ok : ∀ x ∈ nm, NameOk x
  keys : kvs.map (·.1) = nm.map Sum.inr
  at_ : ∀ (i : Nat) (x : Str) (s : Stg), nm[i]? = some x → ss[i]? = some s → ∃ (a : Addr) (of : Str), valV kvs (.inr x) = some (.ref a) ∧ StgAt K H a of s ∧ madeV s of = (if i = 0 then [] else [nm.getD (i - 1) ""])
  ch : ∀ i, i < nm.length → ∃ n d, ChOk (ss.take (i + 1)).reverse n d
theorem Stgs.keep {K : PySem.W.Frag} {H H' : Hp} {kvs : List (Key × V)} {nm : List Str} {ss : List Stg} (h : Stgs K H kvs nm ss) (k : TupK H H') (i : InsK H H' (He.ga K "Picture")) : Stgs K H' kvs nm ss :=
  ⟨h.len, h.nd, h.few, h.ok, h.keys, fun j x s e1 e2 => by
    obtain ⟨a, of, h1, h2, h3⟩ := h.at_ j x s e1 e2
    exact ⟨a, of, h1, h2.keep k i, h3⟩, h.ch⟩
theorem Stgs.kp {K : PySem.W.Frag} {T : List NTab} {M : Addr → Prop} {H H' : Hp} {kvs : List (Key × V)} {nm : List Str} {ss : List Stg} (h : Stgs K H kvs nm ss) (k : Kp T M H H') (n : NoPic K M H) : Stgs K H' kvs nm ss := h.keep k.tp (n.insK k)
theorem Stgs.get {K : PySem.W.Frag} {H : Hp} {kvs : List (Key × V)} {nm : List Str} {ss : List Stg} (h : Stgs K H kvs nm ss) {i : Nat} {x : Str} (e : nm[i]? = some x) : ∃ (s : Stg) (a : Addr) (of : Str), ss[i]? = some s ∧ valV kvs (.inr x) = some (.ref a) ∧ StgAt K H a of s ∧ madeV s of = (if i = 0 then [] else [nm.getD (i - 1) ""]) := by
  have hi : i < ss.length := by
    rw [← h.len]
    exact (List.getElem?_eq_some_iff.mp e).1
  obtain ⟨a, of, r⟩ := h.at_ i x _ e (List.getElem?_eq_getElem hi)
  exact ⟨_, a, of, List.getElem?_eq_getElem hi, r⟩
theorem kV_keys {kvs : List (Key × V)} {nm : List Str} (h : kvs.map (·.1) = nm.map Sum.inr) : (kvs.map fun kv => kV kv.1) = nm.map V.str := by
  have e : (kvs.map fun kv => kV kv.1) = (kvs.map (·.1)).map kV := by rw [List.map_map] <;> rfl
  rw [e, h, List.map_map]
  rfl
theorem getD_of {nm : List Str} {i : Nat} {x : Str} (e : nm[i]? = some x) : nm.getD i "" = x := by
  rw [List.getD_eq_getElem?_getD, e]
  rfl
theorem nodup_inj {nm : List Str} (nd : nm.Nodup) {i j : Nat} {x : Str} (h1 : nm[i]? = some x) (h2 : nm[j]? = some x) : i = j := by
  obtain ⟨l1, e1⟩ := List.getElem?_eq_some_iff.mp h1
  obtain ⟨l2, e2⟩ := List.getElem?_eq_some_iff.mp h2
  have p := List.pairwise_iff_getElem.mp nd
  rcases Nat.lt_trichotomy i j with c | c | c
  · exact absurd (e1.trans e2.symm) (p i j l1 l2 c)
  · exact c
  · exact absurd (e2.trans e1.symm) (p j i l2 l1 c)
theorem mem_take_iff {nm : List Str} {j : Nat} {x : Str} : x ∈ nm.take j ↔ ∃ i, i < j ∧ nm[i]? = some x := by
  constructor
  · intro h
    obtain ⟨i, e⟩ := List.getElem?_of_mem h
    rw [List.getElem?_take] at e
    split at e
    · exact ⟨i, by assumption, e⟩
    · cases e
  · rintro ⟨i, h, e⟩
    refine List.mem_of_getElem? (i := i) ?_
    rw [List.getElem?_take, if_pos h]
    exact e
/-- acc is all b -/
theorem acc_rep {acc : List V} {b : Bool} (h : ∀ (j : Nat) (v : V), acc[j]? = some v → v = .bl b) : acc = (List.replicate acc.length b).map V.bl := by
  apply List.ext_getElem?
  intro j
  rw [List.getElem?_map]
  by_cases hj : j < acc.length
  · rw [List.getElem?_eq_getElem hj, List.getElem?_replicate, if_pos hj]
    exact congrArg some (h j _ (List.getElem?_eq_getElem hj))
  · rw [List.getElem?_eq_none (by omega), List.getElem?_replicate, if_neg hj]
    rfl
theorem all_rep (n : Nat) (b : Bool) (h : b = false → n ≠ 0) : (List.replicate n b).all id = b := by
  cases b with
  | true => exact all_true n
  | false =>
    cases n with
    | zero => exact absurd rfl (h rfl)
    | succ n => rfl
section
variable {P : Program} {w : World} {K : PySem.W.Frag} {mg : Str → Option Value} {base : Heap} {T : List NTab} {M : Addr → Prop}
abbrev ioS : Scope := { kind := .function, names := [(".0", .local), ("name", .local), ("all", .globalImplicit), ("made_of", .globalImplicit), ("found", .cell), ("stages", .cell)], isGenerator := false, isCoroutine := false }
/-- how many names are left -/
def ioM (σ : L2.St) (H : Hp) : Nat := match σ[2]? with
  | some (some (V.ref l)) => (match H l with | some (HO.lst xs) => xs.length | _ => 0)
  | _ => 0
abbrev ioN : List Str := ["stages", "found", "left", "ready", "name", "one"]
def spOrder (K : PySem.W.Frag) (T : List NTab) : Sp := fun vs H Q _ => ∃ d kvs nm ss, vs = [.ref d] ∧ H d = some (.dK kvs) ∧ Stgs K H kvs nm ss ∧ ∀ l H', H l = none → Kp T No H H' → H' l = some (.lst (nm.map V.str)) → Q (.ref l) H'
theorem ok_order (X : Tx w K mg) : Hd P w K mg base 3 (He.ga K "in_order") (spOrder K T) := by
  refine mk_hd X.F_in_order sc_in_order (fun _ _ _ _ ⟨_, _, _, _, e, _⟩ => by rw [e]; rfl) (fun cdv A outer s H vs Q E hr h => ?_)
  obtain ⟨d, kvs, nm, ss, rfl, hd, S, q⟩ := h
  have nd := sc_in_order.nd
  refine ⟨_, pss_cons (ps_set (i := 1) nd rfl (.inr rfl) (pe_lst pa_nil))
    (pss_cons (ps_set (i := 2) nd rfl (.inl rfl) (pe_callTy (call_listD rfl) (by rfl) X.f_list bb_list (pa_cons (pv 0) pa_nil)))
    (pss_cons (ps_while PassesOwn.never (pt_cmpR (op_neD hr.units) (pv 2) (pe_lst pa_nil) (nomark _))
      (pss_cons (ps_set (i := 3) nd rfl (.inr rfl) (pe_lc (own := [("name", 4)]) (g := gName 4) (tt := tB (tCB (rAll K) (tCons (tLc (iList K (tCl (spMade K T) (tCons (tDGet (tVar 0) (tVar 4)) tNil))) (gName 5) tYes (tOp (rIn K false) (tVar 5) (tVar 1)) [5]) tNil))) (by rfl) nd (pi_list (pv 2)) (blkOk_by (N := ioN) (sc := defScope s_in_order) (by decide +kernel))
        (fun _ _ _ _ _ => pg_name (i := 4) nd rfl (Or.inl rfl))
        (fun _ _ _ _ _ => pts_one (pt_val (pe_callB (cr_all rfl) (by rfl) X.f_all bb_all (pa_cons (pe_lc (own := [("one", 5)]) (g := gName 5) (by rfl) nd (pi_list (pe_h (ok_made (T := T) X) hr X.g_made_of (pa_cons (pe_dget (hu_of hr) (pv 0) (pv 4) (fun _ _ => rfl)) pa_nil))) (blkOk_by (N := ioN) (sc := ioS) (by decide +kernel))
          (fun _ _ _ _ _ => pg_name (i := 5) nd rfl (Or.inl rfl)) (fun _ _ _ _ _ => pts_nil) (fun _ _ _ _ _ => pe_cmpR op_in_seq (pv 5) (pv 1) rfl)) pa_nil))))
        (fun _ _ _ _ _ => pv 4)))
      (pss_cons (ps_if (pt_cmpR (op_eqD hr.units) (pv 3) (pe_lst pa_nil) (nomark _)) (pss_one (ps_ret pe_non)) pss_nil)
      (pss_cons (ps_expr (pe_bm PySem.F.plainAttrs_list PySem.F.slot_list_extend PySem.F.type_list_extend mt_extend (pv 1) (pa_cons (pv 3) pa_nil)))
      (pss_one (ps_setLc (i := 2) (own := [("name", 4)]) (g := gName 4) (tt := tTest (tOp (rIn K true) (tVar 4) (tVar 3))) (by rfl) nd rfl rfl (sw_true rfl rfl rfl (by decide +kernel)) (pi_list (pv 2)) (blkOk_by (N := ioN) (sc := defScope s_in_order) (by decide +kernel))
        (fun _ _ _ _ _ => pg_name (i := 4) nd rfl (Or.inl rfl)) (fun _ _ _ _ _ => pts_one (pt_cmpR op_notIn_seq (pv 4) (pv 3) rfl)) (fun _ _ _ _ _ => pv 4)))))))
    (pss_one (ps_ret (pv 1))))), ?_⟩
  refine ⟨Nat.zero_le _, fun f hf => ?_⟩
  refine ⟨_, rfl, d, kvs, rfl, .inl ((upd_ne (ne_of_none hd hf)).trans hd), fun l hl => ?_⟩
  rw [kV_keys S.keys]
  have hlH := upd_none hl
  have hfl : f ≠ l := fun z => by rw [← z, upd_same] at hl; cases hl
  refine while_by (fun σ H' => ∃ (j : Nat) (l : Addr) (rd : Option V), j ≤ nm.length ∧ σ = [some (.ref d), some (.ref f), some (.ref l), rd, none, none] ∧ Kp T No H H' ∧ f ≠ l ∧ H' f = some (.lst ((nm.take j).map V.str)) ∧ H' l = some (.lst ((nm.drop j).map V.str)))
    ioM ?_ ?_ ?_
  · exact ⟨0, l, none, Nat.zero_le _, rfl, (Kp.new hf).tr (.new hl), hfl, (upd_ne hfl).trans upd_same, upd_same⟩
  · rintro σ H1 ⟨j, l, rd, hj, rfl, k1, hfl, hf1, hl1⟩
    refine ⟨_, rfl, Nat.zero_le _, fun e he => ?_⟩
    have nl : ∀ x ∈ nm.drop j, NameOk x := fun x hx => S.ok x (List.mem_of_mem_drop hx)
    have ke : Kp T No H1 (upd H1 e (.lst [])) := .new he
    refine ⟨_, _, dp_sl (ke.lst hl1 id), dp_sl (xs := []) upd_same, shaped_strs nl, shaped_strs (fun x hx => nomatch hx), ?_⟩
    rw [eqv_nil]
    rcases Nat.lt_or_ge j nm.length with lt | ge
    · have hne : (nm.drop j).isEmpty = false := by
        cases q : nm.drop j with
        | nil => have := congrArg List.length q; rw [List.length_drop] at this; simp at this; omega
        | cons a b => rfl
      rw [hne]
      refine ⟨_, rfl, iteT ?_⟩
      have k2 := k1.tr ke
      have S2 := S.kp k2 NoPic.no
      have hd2 := k2.dK hd id
      have hf2 := ke.lst hf1 id
      have hl2 := ke.lst hl1 id
      have y0 : nm[j]? = some nm[j] := List.getElem?_eq_getElem lt
      have dlen : ((nm.drop j).map V.str).length = nm.length - j := by rw [List.length_map, List.length_drop]
      have few := S.few
      have item : ∀ (i : Nat) (x : V), ((nm.drop j).map V.str)[i]? = some x → ∃ y, x = .str y ∧ nm[j + i]? = some y := fun i x hx => by
        rw [List.getElem?_map, List.getElem?_drop] at hx
        cases e : nm[j + i]? with
        | none => rw [e] at hx; cases hx
        | some y => rw [e] at hx; exact ⟨y, (Option.some.inj hx).symm, rfl⟩
      refine ⟨_, rfl, l, rfl, ⟨_, SqL.of hl2⟩, fun D hD => lc_list (xs := (nm.drop j).map V.str) (fun i H3 => Kp T No (upd H1 e (.lst [])) H3 ∧ H3 D = some (.lst (if i = 0 then [] else [V.str nm[j]]))) ⟨.new hD, upd_same⟩ (fun i H3 _ p => SqL.of (p.1.lst hl2 id)) (fun i x H3 hx p => ?_) fun H3 p => ?_⟩
      · obtain ⟨y, rfl, hy⟩ := item i x hx
        have hi : i < 24 := by
          have := (List.getElem?_eq_some_iff.mp hx).1
          omega
        obtain ⟨sg, sa, of, es, ea, hsa, hmade⟩ := (S2.kp p.1 NoPic.no).get hy
        refine ⟨rfl, ?_⟩
        refine ⟨_, rfl, _, rfl, d, _, rfl, ?_, sa, of, sg, rfl, hsa, fun l5 H5 hl5 k5 h5 => ?_⟩
        · have g := DGet.k (k := .inr y) (p.1.dK hd2 id)
          rw [ea] at g
          exact g
        have hD5 := k5.lst p.2 id
        refine ⟨l5, rfl, ⟨_, SqL.of h5⟩, fun D5 hD5n => lc_mapL (T := T) (M := No) (R := fun _ v _ => v = .bl (decide (i = 0))) (G := G0) hD5n h5 id True.intro (fun i5 x5 H6 hx5 p5 => ?_) fun H6 acc k6 e6 el6 ha6 _ => ?_⟩
        · refine ⟨rfl, ?_⟩
          rw [hmade] at hx5
          have h5' : x5 = .str (nm.getD (j + i - 1) "") ∧ j + i ≠ 0 := by
            split at hx5
            · simp at hx5
            · rename_i hne0
              match i5, hx5 with
              | 0, hx5 => exact ⟨(Option.some.inj hx5).symm, hne0⟩
          obtain ⟨rfl, hji⟩ := h5'
          have hf6 := (p.1.tr (k5.tr p5.kp)).lst hf2 id
          refine ⟨_, rfl, _, rfl, f, _, rfl, .inl (SqL.of hf6), rfl, flat_str _, ?_⟩
          have hlt2 : j + i - 1 < nm.length := by
            have := (List.getElem?_eq_some_iff.mp hy).1
            omega
          have eg : nm.getD (j + i - 1) "" = nm[j + i - 1] := getD_of (List.getElem?_eq_getElem hlt2)
          have ev : (if false = true then !inV (.str (nm.getD (j + i - 1) "")) ((nm.take j).map V.str) else inV (.str (nm.getD (j + i - 1) "")) ((nm.take j).map V.str)) = decide (i = 0) := by
            rw [if_neg Bool.false_ne_true, inV_str]
            by_cases h0 : i = 0
            · rw [decide_eq_true h0]
              refine decide_eq_true (mem_take_iff.mpr ⟨j + i - 1, by omega, ?_⟩)
              rw [eg]
              exact List.getElem?_eq_getElem hlt2
            · rw [decide_eq_false h0]
              refine decide_eq_false fun z => ?_
              obtain ⟨m, hm, em⟩ := mem_take_iff.mp z
              rw [eg] at em
              have := nodup_inj S.nd em (List.getElem?_eq_getElem hlt2)
              omega
          rw [ev]
          refine p5.next Tst.pure id hD5n .refl (line_big ?_) rfl fun _ => True.intro
          have := (List.getElem?_eq_some_iff.mp hx5).1
          split at this <;> simp at this <;> omega
        · have hl6 : acc.length = if j + i = 0 then 0 else 1 := by
            rw [el6, List.length_map, hmade]
            split <;> rfl
          refine ⟨D5, List.replicate acc.length (decide (i = 0)), rfl, ?_, decide (i = 0), congrArg V.bl (all_rep _ _ fun z => ?_), ?_⟩
          · rw [← acc_rep ha6]
            exact SqL.of e6
          · have z := of_decide_eq_false z
            rw [hl6, if_neg (by omega)]
            decide
          · have hD6 := k6.lst hD5 id
            have kk := p.1.tr (k5.tr k6)
            refine iteD (fun h0 => ?_) fun h0 => ?_
            · subst h0
              have ey : y = nm[j] := Option.some.inj (hy.symm.trans y0)
              subst ey
              exact ⟨_, rfl, _, hD6, Nat.lt_of_le_of_lt (Nat.zero_le _) (small1000 (n := 1) (by decide)), (kk.trans (.put hD6 True.intro) fun c hc => .inr (by rw [hc]; exact hD)), upd_same⟩
            · refine ⟨kk, ?_⟩
              rw [hD6, if_neg h0, if_neg (Nat.succ_ne_zero i)]
      · rw [dlen, if_neg (by omega)] at p
        obtain ⟨k3, hD3⟩ := p
        have fD : f ≠ D := ne_of_none hf2 hD
        refine ⟨_, rfl, Nat.zero_le _, fun e2 he2 => ?_⟩
        have ke2 : Kp T No H3 (upd H3 e2 (.lst [])) := .new he2
        have hD4 := ke2.lst hD3 id
        have hf4 := (k3.tr ke2).lst hf2 id
        have hl4 := (k3.tr ke2).lst hl2 id
        refine ⟨_, _, dp_sl (xs := [nm[j]]) hD4, dp_sl (xs := []) upd_same, shaped_strs (fun x hx => S.ok x (by rw [List.mem_singleton.mp hx]; exact List.mem_of_getElem? y0)), shaped_strs (fun x hx => nomatch hx), ?_⟩
        rw [eqv_nil]
        refine ⟨_, rfl, iteF ?_⟩
        refine ⟨_, rfl, .inl ⟨rfl, _, SqL.of hf4⟩, _, rfl, f, D, _, _, rfl, rfl, hf4, hD4, small_tup (by simp; omega), ?_⟩
        have kf := Kp.put (T := T) (o' := .lst ((nm.take j).map V.str ++ [V.str nm[j]])) hf4 True.intro
        generalize hH5 : upd (upd H3 e2 (.lst [])) f (.lst ((nm.take j).map V.str ++ [V.str nm[j]])) = H5 at kf
        have k5 : Kp T No H H5 := (k2.tr (k3.tr ke2)).trans kf fun c hc => .inr (by rw [hc]; exact hf)
        have hf5 : H5 f = some (.lst ((nm.take (j + 1)).map V.str)) := by
          rw [← hH5, upd_same, List.take_succ, y0, List.map_append]
          rfl
        have hD5 := kf.lst hD4 fun z => fD z.symm
        have hl5 := kf.lst hl4 fun z => hfl z.symm
        refine ⟨_, rfl, l, rfl, ⟨_, SqL.of hl5⟩, fun D2 hD2 => lc_list (xs := (nm.drop j).map V.str) (fun i H6 => Kp T No H5 H6 ∧ H6 D2 = some (.lst ((((nm.drop j).take i).drop 1).map V.str))) ⟨.new hD2, upd_same⟩ (fun i H6 _ p => SqL.of (p.1.lst hl5 id)) (fun i x H6 hx p => ?_) fun H6 p => ?_⟩
        · obtain ⟨y, rfl, hy⟩ := item i x hx
          have hi : i < 24 := by
            have := (List.getElem?_eq_some_iff.mp hx).1
            omega
          refine ⟨rfl, ?_⟩
          refine ⟨_, rfl, _, rfl, D, [nm[j]].map V.str, rfl, .inl (SqL.of (p.1.lst hD5 id)), rfl, flat_str _, ?_⟩
          have ev : (if true = true then !inV (.str y) ([nm[j]].map V.str) else inV (.str y) ([nm[j]].map V.str)) = !decide (i = 0) := by
            rw [if_pos rfl, inV_str]
            by_cases h0 : i = 0
            · subst h0
              have ey : y = nm[j] := Option.some.inj (hy.symm.trans y0)
              rw [ey]
              simp
            · have : ¬ y = nm[j] := fun z => by
                rw [z] at hy
                have := nodup_inj S.nd hy y0
                omega
              simp [h0, this]
          rw [ev]
          have hyd : (nm.drop j)[i]? = some y := by rw [List.getElem?_drop]; exact hy
          refine ⟨_, rfl, iteN (fun h0 => ?_) fun h0 => ?_⟩
          · refine ⟨_, rfl, _, p.2, line_big (by simp; omega), (p.1.trans (.put p.2 True.intro) fun c hc => .inr (by rw [hc]; exact hD2)), ?_⟩
            rw [upd_same, List.take_succ, hyd, List.drop_append_of_le_length (by rw [List.length_take]; have := (List.getElem?_eq_some_iff.mp hyd).1; omega), List.map_append]
            rfl
          · subst h0
            refine ⟨p.1, ?_⟩
            rw [p.2, List.take_succ, hyd]
            simp
        · have hD6 : H6 D2 = some (.lst ((nm.drop (j + 1)).map V.str)) := by
            rw [p.2, dlen, List.take_of_length_le (by rw [List.length_drop]; omega), List.drop_drop]
          refine ⟨⟨j + 1, D2, some (.ref D), lt, rfl, k5.tr p.1, ne_of_none hf5 hD2, p.1.lst hf5 id, hD6⟩, ?_⟩
          have m1 : ioM [some (.ref d), some (.ref f), some (.ref l), rd, none, none] H1 = nm.length - j := by
            unfold ioM
            show (match H1 l with | some (HO.lst xs) => xs.length | _ => 0) = _
            rw [hl1]
            exact dlen
          have m2 : ioM [some (.ref d), some (.ref f), some (.ref D2), some (.ref D), none, none] H6 = nm.length - (j + 1) := by
            unfold ioM
            show (match H6 D2 with | some (HO.lst xs) => xs.length | _ => 0) = _
            rw [hD6]
            show ((nm.drop (j + 1)).map V.str).length = _
            rw [List.length_map, List.length_drop]
          rw [m1]
          refine Nat.lt_of_le_of_lt (Nat.le_of_eq m2) (by omega)
    · have hj2 : j = nm.length := Nat.le_antisymm hj ge
      have hem : (nm.drop j).isEmpty = true := by rw [hj2, List.drop_length]; rfl
      rw [hem]
      refine ⟨_, rfl, iteF ?_⟩
      refine ⟨_, rfl, q f _ hf (k1.tr ke) ?_⟩
      rw [hj2, List.take_length] at hf1
      exact ke.lst hf1 id
  · rintro σ H Q Q' i ⟨v, e1, h1, h2⟩
    refine ⟨v, e1, h1, fun e he => ?_⟩
    obtain ⟨d1, d2, a1, a2, a3, a4, k, ek, qk⟩ := h2 e he
    exact ⟨d1, d2, a1, a2, a3, a4, k, ek, i _ _ qk⟩
end
end K9

set_option maxHeartbeats 4000000
namespace K9
open PySem PySem.Spec PyProof.Rows L2 NdefX LamX
theorem valV_no {κ : Type} [DecidableEq κ] {kvs : List (κ × V)} {k : κ} (h : k ∉ kvs.map (·.1)) : valV kvs k = none := by
  cases e : valV kvs k with
  | none => rfl
  | some v =>
    have q := valV_any k kvs
    rw [e] at q
    obtain ⟨kv, hm, hk⟩ := List.any_eq_true.mp q
    exact absurd (List.mem_map.mpr ⟨kv, hm, of_decide_eq_true hk⟩) h
theorem dget_k {H : Hp} {a : Addr} {kvs : List (Key × V)} {k : Key} {v : V} (e : H a = some (.dK kvs)) (h : valV kvs k = some v) : DGet H a (kV k) (some v) := by
  rw [← h]
  exact DGet.k e
theorem putK_new {κ : Type} [DecidableEq κ] {kvs : List (κ × V)} {k : κ} {v : V} (h : valV kvs k = none) : putK kvs k v = kvs ++ [(k, v)] := by
  unfold putK
  rw [if_neg]
  rw [valV_any, h]
  exact Bool.false_ne_true
/-- the shapes of the first i -/
structure ShpI (H : Hp) (kh : List (Key × V)) (nm : List Str) (ss : List Stg) (i : Nat) : Prop where
  keys : kh.map (·.1) = (nm.take i).map Sum.inr
  at_ : ∀ (k : Nat) (x : Str), k < i → nm[k]? = some x → ∃ (sh : Addr) (n : Nat) (d : Int), valV kh (.inr x) = some (.ref sh) ∧ ShAt H sh n d ∧ ChOk (ss.take (k + 1)).reverse n d
theorem ShpI.keep {H H' : Hp} {kh : List (Key × V)} {nm : List Str} {ss : List Stg} {i : Nat} (h : ShpI H kh nm ss i) (k : TupK H H') : ShpI H' kh nm ss i :=
  ⟨h.keys, fun j x hj e => by
    obtain ⟨sh, n, d, h1, h2, h3⟩ := h.at_ j x hj e
    exact ⟨sh, n, d, h1, k _ _ h2, h3⟩⟩
theorem key_fresh {nm : List Str} {kh : List (Key × V)} {i : Nat} {x : Str} (nd : nm.Nodup) (hk : kh.map (·.1) = (nm.take i).map Sum.inr) (e : nm[i]? = some x) : valV kh (Sum.inr x) = none := by
  refine valV_no fun z => ?_
  rw [hk] at z
  obtain ⟨y, hy, ey⟩ := List.mem_map.mp z
  obtain rfl := Sum.inr.inj ey
  obtain ⟨j, hj, ej⟩ := mem_take_iff.mp hy
  have := nodup_inj nd ej e
  omega
theorem ShpI.put {H : Hp} {kh : List (Key × V)} {nm : List Str} {ss : List Stg} {i : Nat} {x : Str} {sh : Addr} {n : Nat} {d : Int} (h : ShpI H kh nm ss i) (nd : nm.Nodup) (e : nm[i]? = some x) (hs : ShAt H sh n d) (ok : ChOk (ss.take (i + 1)).reverse n d) : ShpI H (putK kh (.inr x) (.ref sh)) nm ss (i + 1) := by
  refine ⟨?_, fun k y hk ey => ?_⟩
  · rw [putK_new (key_fresh nd h.keys e), List.map_append, h.keys, List.take_succ, e, List.map_append]
    rfl
  · rw [valV_put]
    by_cases c : k = i
    · subst c
      obtain rfl := Option.some.inj (ey.symm.trans e)
      rw [if_pos rfl]
      exact ⟨sh, n, d, rfl, hs, ok⟩
    · rw [if_neg fun z => c (nodup_inj nd ey (by rw [Sum.inr.inj z]; exact e))]
      exact h.at_ k y (by omega) ey
section
variable {P : Program} {w : World} {K : PySem.W.Frag} {mg : Str → Option Value} {base : Heap} {T : List NTab} {M : Addr → Prop}
theorem Stgs.chain {H : Hp} {kvs : List (Key × V)} {nm : List Str} {ss : List Stg} (S : Stgs K H kvs nm ss) {i : Nat} {x : Str} {s : Stg} (e : nm[i]? = some x) (es : ss[i]? = some s) : ∃ n d, ChOk (s :: (ss.take i).reverse) n d := by
  obtain ⟨n, d, h⟩ := S.ch i (List.getElem?_eq_some_iff.mp e).1
  rw [List.take_succ, es] at h
  refine ⟨n, d, ?_⟩
  simpa using h
theorem chain_eq {ss : List Stg} {i : Nat} {s : Stg} (es : ss[i]? = some s) : (ss.take (i + 1)).reverse = s :: (ss.take i).reverse := by
  rw [List.take_succ, es]
  simp
abbrev soN : List Str := ["stages", "shapes", "name", "stage", "one"]
def spShapes (K : PySem.W.Frag) (T : List NTab) : Sp := fun vs H Q _ => ∃ d kvs nm ss, vs = [.ref d] ∧ H d = some (.dK kvs) ∧ Stgs K H kvs nm ss ∧ ∀ d2 kh H', H d2 = none → Kp T No H H' → H' d2 = some (.dK kh) → ShpI H' kh nm ss nm.length → Q (.ref d2) H'
/-- the shapes of what a stage is made of -/
abbrev RSh (ss : List Stg) (i : Nat) : Nat → V → Hp → Prop := fun _ v H => ∃ (sh : Addr) (n : Nat) (d : Int), v = .ref sh ∧ ShAt H sh n d ∧ ChOk (ss.take i).reverse n d
theorem RSh.tst {ss : List Stg} {i : Nat} : Tst (RSh ss i) := fun _ _ H H' k ⟨sh, n, d, e, h, ok⟩ => ⟨sh, n, d, e, k _ _ h, ok⟩
theorem shs_of {H : Hp} {D : Addr} {acc : List V} {ss : List Stg} {i : Nat} (hi : i ≤ ss.length) (e : H D = some (.lst acc)) (el : acc.length = if i = 0 then 0 else 1) (h : ∀ j v, acc[j]? = some v → RSh ss i j v H) : ShsAt H D (ss.take i).reverse := by
  by_cases h0 : i = 0
  · subst h0
    rw [if_pos rfl] at el
    rw [List.eq_nil_of_length_eq_zero el] at e
    exact .inl ⟨by simp, e⟩
  · rw [if_neg h0] at el
    obtain ⟨v, rfl⟩ := List.length_eq_one_iff.mp el
    obtain ⟨sh, n, d, rfl, h1, h2⟩ := h 0 v rfl
    exact .inr ⟨sh, n, d, e, h2, h1⟩
theorem ok_shapes (X : Tx w K mg) : Hd P w K mg base 4 (He.ga K "shapes_of") (spShapes K T) := by
  refine mk_hd X.F_shapes_of sc_shapes_of (fun _ _ _ _ ⟨_, _, _, _, e, _⟩ => by rw [e]; rfl) (fun cdv A outer s H vs Q E hr h => ?_)
  obtain ⟨d, kvs, nm, ss, rfl, hd, S, q⟩ := h
  have nd := sc_shapes_of.nd
  refine ⟨_, pss_cons (ps_set (i := 1) nd rfl (.inr rfl) pe_dnewK)
    (pss_cons (ps_for PassesOwn.never rfl (pi_list (pe_h (ok_order (T := T) X) hr X.g_in_order (pa_cons (pv 0) pa_nil))) (pg_name (i := 2) nd rfl (.inl rfl))
      (pss_cons (ps_set (i := 3) nd rfl (.inl rfl) (pe_dget (hu_of hr) (pv 0) (pv 2) (fun _ _ => rfl)))
      (pss_one (ps_dput (hu_of hr) (pv 1) (pv 2) (pe_h (ok_shape_by (T := T) X) hr X.g_shape_by (pa_cons (pv 3) (pa_cons (pe_lc (own := [("one", 4)]) (g := gName 4) (by rfl) nd (pi_list (pe_h (ok_made (T := T) X) hr X.g_made_of (pa_cons (pv 3) pa_nil))) (blkOk_by (N := soN) (sc := defScope s_shapes_of) (by decide +kernel))
        (fun _ _ _ _ _ => pg_name (i := 4) nd rfl (Or.inl rfl)) (fun _ _ _ _ _ => pts_nil) (fun _ _ _ _ _ => pe_dget (hu_of hr) (pv 1) (pv 4) (fun _ _ => rfl))) pa_nil))) rfl))))
    (pss_one (ps_ret (pv 1)))), ?_⟩
  refine fun d2 hd2 => ?_
  have kd2 : Kp T No H (upd H d2 (.dK [])) := .new hd2
  refine ⟨_, rfl, d, kvs, nm, ss, rfl, kd2.dK hd id, S.kp kd2 NoPic.no, fun l H1 hl k1 h1 => ⟨l, rfl, ⟨_, SqL.of h1⟩, ?_⟩⟩
  have k2 := kd2.tr k1
  have hl0 := upd_none hl
  have ld2 : l ≠ d2 := fun z => by rw [z, upd_same] at hl; cases hl
  refine for_list (xs := nm.map V.str) (Pv := fun i σ H' => (∃ kh x y, σ = [some (.ref d), some (.ref d2), x, y, none] ∧ H' d2 = some (.dK kh) ∧ ShpI H' kh nm ss i) ∧ Kp T (On d2) H1 H' ∧ Kp T No H H') ⟨⟨[], _, _, rfl, k1.dK upd_same id, rfl, fun k x hk => absurd hk (Nat.not_lt_zero _)⟩, .refl, k2⟩
    (fun i σ H' _ p => SqL.of (p.2.1.lst h1 ld2)) (fun i x σ H' hx p => ?_) fun σ H' p => ?_
  · obtain ⟨⟨kh, x0, y0, rfl, hd2', SI⟩, kl, k3⟩ := p
    rw [List.getElem?_map] at hx
    cases hy : nm[i]? with
    | none => rw [hy] at hx; cases hx
    | some y =>
      rw [hy] at hx
      obtain rfl := (Option.some.inj hx).symm
      have S3 := S.kp k3 NoPic.no
      obtain ⟨sg, sa, of, es, ea, hsa, hmade⟩ := S3.get hy
      have few := S.few
      have hin : i < nm.length := (List.getElem?_eq_some_iff.mp hy).1
      refine ⟨_, rfl, _, rfl, d, .ref sa, rfl, dget_k (k := .inr y) (k3.dK hd id) ea, ?_⟩
      refine ⟨_, rfl, _, rfl, sa, of, sg, rfl, hsa, fun l5 H5 hl5 k5 h5 => ⟨l5, rfl, ⟨_, SqL.of h5⟩, fun D5 hD5 => lc_mapL (T := T) (M := No) (R := RSh ss i) (G := G0) hD5 h5 id True.intro (fun i5 x5 H6 hx5 p5 => ?_) fun H6 acc k6 e6 el6 ha6 _ => ?_⟩⟩
      · refine ⟨rfl, ?_⟩
        rw [hmade] at hx5
        have hx5' : x5 = .str (nm.getD (i - 1) "") ∧ i ≠ 0 := by
          split at hx5
          · simp at hx5
          · rename_i hne0
            match i5, hx5 with
            | 0, hx5 => exact ⟨(Option.some.inj hx5).symm, hne0⟩
        obtain ⟨rfl, hi0⟩ := hx5'
        have k7 := k5.tr p5.kp
        have SI6 := SI.keep k7.tp
        have hlt2 : i - 1 < nm.length := by omega
        have e1 : nm[i - 1]? = some (nm.getD (i - 1) "") := by rw [getD_of (List.getElem?_eq_getElem hlt2)]; exact List.getElem?_eq_getElem hlt2
        obtain ⟨sh, n, dd, a1, a2, a3⟩ := SI6.at_ (i - 1) _ (by omega) e1
        refine ⟨_, rfl, _, rfl, d2, .ref sh, rfl, dget_k (k := .inr (nm.getD (i - 1) "")) (k7.dK hd2' id) a1, ?_⟩
        refine p5.next RSh.tst id hD5 .refl (line_big ?_) ⟨sh, n, dd, rfl, a2, by rw [show i - 1 + 1 = i by omega] at a3; exact a3⟩ fun _ => True.intro
        have := (List.getElem?_eq_some_iff.mp hx5).1
        split at this <;> simp at this <;> omega
      · have hsh := shs_of (ss := ss) (i := i) (by rw [← S.len]; omega) e6 (by rw [el6, List.length_map, hmade]; split <;> rfl) ha6
        obtain ⟨n, dd, ok⟩ := S.chain hy es
        have k7 := k5.tr k6
        refine ⟨sa, D5, of, sg, _, n, dd, True.intro, rfl, hsa.kp k7 NoPic.no, ok, hsh, fun H8 sh k8 h8 => ?_⟩
        have k9 := k7.tr k8
        have hd9 := k9.dK hd2' id
        have SI9 := SI.keep k9.tp
        have kp9 : Kp T (On d2) H8 (upd H8 d2 (.dK (putK kh (.inr y) (.ref sh)))) := .put hd9 True.intro
        have hkl : kh.length = i := by
          have := congrArg List.length SI.keys
          rw [List.length_map, List.length_map, List.length_take] at this
          omega
        refine ⟨_, rfl, _, rfl, d2, _, rfl, DPut.k (k := .inr y) hd9 (line_big (by omega)), ⟨_, _, _, rfl, upd_same, (SI9.put S.nd hy h8 (by rw [chain_eq es]; exact ok)).keep kp9.tp⟩, (kl.tr k9.any).tr kp9, (k3.tr k9).trans kp9 fun c hc => .inr (by rw [hc]; exact hd2)⟩
  · obtain ⟨⟨kh, x0, y0, rfl, hd2', SI⟩, kl, k3⟩ := p
    rw [List.length_map] at SI
    exact ⟨_, rfl, q d2 kh H' hd2 k3 hd2' SI⟩
end
end K9

set_option maxHeartbeats 4000000
namespace K9
open PySem PySem.Spec PyProof.Rows L2 NdefX LamX
/-- one of the first m promises -/
def U (sp : Nat → Sp) (m : Nat) : Sp := fun vs H Q E => ∃ i, i < m ∧ sp i vs H Q E
/-! ### defs that make defs: their code objects are known -/
abbrev dNum : He.Defn := ("numbers_at", none)
abbrev dWho : He.Defn := ("Net", some "whole")
def nmT : Nat → Nat → Str := fun l _ => if l < 500 then "numbers_at.<locals>.look" else "Net.whole.<locals>.tell"
/-- the two tables -/
def tabs (K : PySem.W.Frag) : List NTab := [((He.cT K dNum).2, nmT), ((He.cT K dWho).2, nmT)]
section
variable {P : Program} {w : World} {K : PySem.W.Frag} {mg : Str → Option Value} {base : Heap}
/-- THE RULE for a def that makes a def -/
theorem mk_hdC {x qual : Str} {params : Arguments} {body : List Stmt} {scope : Scope} {p : He.Defn} {f : Addr} {N ps : List Str} {k : Nat} {sp : Sp} (ef : He.fAd K p = f) (F : ∃ fd, FunD K x qual params body scope [] [] f fd ∧ Binds K fd ps []) (S : FnScope N ps scope) (len : ∀ vs H Q E, sp vs H Q E → vs.length = ps.length)
    (hbody : ∀ (A : Around) (outer : List Env) (s : Shared) (H : Hp) (vs : List V) (Q : VK) (E : XK), Room k (A.deeper (envOfC qual scope s.heap.objs.size f (.ref (He.cT K p).1))) → sp vs H Q E →
      ∃ t, PSs (cxOf CX0 P w K mg base N qual scope f (.ref (He.cT K p).1) A outer s H E).nox body t ∧ t { nx := fun _ H' => Q .non H', rt := Q } (start N vs) H) : Hd P w K mg base (k + 1) f sp := by
  obtain ⟨fd, D, b⟩ := F
  obtain ⟨oc, od, dV, kV, doc, pm, an, cdv, ct, osl, rfl, lk, hcd, h1, h2⟩ := D.ex
  obtain ⟨c, rfl⟩ := He.codeIn_ref hcd
  have ec : (He.cT K p).1 = c := He.codeOf_eq (p := p) (by rw [ef]; exact lk) rfl
  rw [ec] at hbody
  refine ⟨⟨_, ps, fn_of lk hcd S len fun A outer s H vs Q E hr h => ?_, D.kp, b⟩⟩
  obtain ⟨t, q1, q2⟩ := hbody A outer s H vs Q E hr h
  exact ⟨t, q1.nox, q2⟩
end
abbrev ifBody : Stmt → List Stmt
  | .If _ b _ _ => b
  | _ => []
abbrev s_look : Stmt := (ifBody ((defBody s_numbers_at).getD 1 (.Pass ⟨0, 0, 0, 0⟩))).getD 2 (.Pass ⟨0, 0, 0, 0⟩)
abbrev lookN : List Str := ["which", "u", "v", "layer", "stages", "shapes", "memo", "parts"]
abbrev lookP : List Str := ["which", "u", "v", "layer"]
abbrev lookF : List Str := ["stages", "shapes", "memo", "parts"]
abbrev numN : List Str := ["stages", "shapes", "memo", "name", "x", "y", "plane", "key", "stage", "look", "parts", "one"]
theorem look_free : ∀ y ∈ (C8.fnScope s_look).names, y.2 = .free → (defScope s_numbers_at).names.lookup y.1 = some .cell ∨ (defScope s_numbers_at).names.lookup y.1 = some .free := by decide +kernel
theorem look_has : ∀ y ∈ lookF, (y, NameKind.free) ∈ (C8.fnScope s_look).names := by decide +kernel
/-- the function look -/
def LookF (F : NF) : Prop := ∃ cl c, F = NF.of s_look "look" "numbers_at.<locals>.look" cl c
/-- what the memo holds is right -/
def MemoOk (nm : List Str) (ss : List Stg) (mv : List (List Key × V)) : Prop := ∀ (i : Nat) (x : Str) (u v : Int) (p : Nat) (r : V), nm[i]? = some x → valV mv [.inr x, .inl u, .inl v, .inl p] = some r → r = .int (val (ss.take (i + 1)).reverse u v p)
theorem MemoOk.put {nm : List Str} {ss : List Stg} {mv : List (List Key × V)} (h : MemoOk nm ss mv) (nd : nm.Nodup) {i : Nat} {x : Str} {u v : Int} {p : Nat} (e : nm[i]? = some x) : MemoOk nm ss (putK mv [.inr x, .inl u, .inl v, .inl p] (.int (val (ss.take (i + 1)).reverse u v p))) := fun i' x' u' v' p' r e' hr => by
  rw [valV_put] at hr
  split at hr
  · rename_i q
    simp only [List.cons.injEq, Sum.inr.injEq, Sum.inl.injEq, and_true] at q
    obtain ⟨rfl, rfl, rfl, q4⟩ := q
    obtain rfl := nodup_inj nd e' e
    obtain rfl : p' = p := by omega
    exact (Option.some.inj hr).symm
  · exact h i' x' u' v' p' r e' hr
theorem putK_len {κ : Type} [DecidableEq κ] (kvs : List (κ × V)) (k : κ) (v : V) : (putK kvs k v).length ≤ kvs.length + 1 := by
  unfold putK
  split
  · rw [List.length_map]
    omega
  · rw [List.length_append]
    exact Nat.le_refl _
theorem ChOk.tail {s : Stg} {r : List Stg} {n : Nat} {d : Int} (h : ChOk (s :: r) n d) (hr : r ≠ []) : ∃ d0, ChOk r n d0 := by
  cases s with
  | source p b => exact absurd h.1 hr
  | framed w b => exact ⟨d, h.1⟩
  | moved a b => exact ⟨d, h.1⟩
  | flipped b => exact ⟨d, h⟩
  | turned => exact ⟨d, h⟩
  | curved t dp => exact ⟨h.choose, h.choose_spec.1⟩
/-- the net's dicts, the memo -/
structure NumAt (K : PySem.W.Frag) (H : Hp) (d h m : Addr) (kvs kh : List (Key × V)) (nm : List Str) (ss : List Stg) (mv : List (List Key × V)) : Prop where
  st : H d = some (.dK kvs)
  sh : H h = some (.dK kh)
  me : H m = some (.dT mv)
  S : Stgs K H kvs nm ss
  SH : ShpI H kh nm ss nm.length
  ok : MemoOk nm ss mv
theorem NumAt.kp {K : PySem.W.Frag} {T : List NTab} {H H' : Hp} {d h m : Addr} {kvs kh : List (Key × V)} {nm : List Str} {ss : List Stg} {mv mv' : List (List Key × V)} (N : NumAt K H d h m kvs kh nm ss mv) (k : Kp T (On m) H H') (e : H' m = some (.dT mv')) (o : MemoOk nm ss mv') : NumAt K H' d h m kvs kh nm ss mv' := by
  have nd : d ≠ m := ne_of N.st N.me fun z => nomatch z
  have nh : h ≠ m := ne_of N.sh N.me fun z => nomatch z
  exact ⟨k.dK N.st nd, k.dK N.sh nh, e, N.S.kp k (NoPic.dT N.me), N.SH.keep k.tp, o⟩
theorem NumAt.kn {K : PySem.W.Frag} {T : List NTab} {H H' : Hp} {d h m : Addr} {kvs kh : List (Key × V)} {nm : List Str} {ss : List Stg} {mv : List (List Key × V)} (N : NumAt K H d h m kvs kh nm ss mv) (k : Kp T No H H') : NumAt K H' d h m kvs kh nm ss mv := N.kp k.any (k.dT N.me id) N.ok
section
variable {P : Program} {w : World} {K : PySem.W.Frag} {mg : Str → Option Value} {base : Heap} {T : List NTab}
/-- numbers_at at the i-th stage -/
def spNum (K : PySem.W.Frag) (T : List NTab) (i : Nat) : Sp := fun vs H Q _ => ∃ (d h m : Addr) (kvs kh : List (Key × V)) (nm : List Str) (ss : List Stg) (mv : List (List Key × V)) (x : Str) (xx yy : Int) (p n : Nat) (dd : Int), vs = [.ref d, .ref h, .ref m, .str x, .int xx, .int yy, .int p] ∧ NumAt K H d h m kvs kh nm ss mv ∧ TabsN T H ∧ nm[i]? = some x ∧ ChOk (ss.take (i + 1)).reverse n dd ∧ p < n ∧
  mv.length + (i + 1) ≤ 1000000 ∧ ∀ H' mv', Kp T (On m) H H' → H' m = some (.dT mv') → MemoOk nm ss mv' → mv'.length ≤ mv.length + (i + 1) → Q (.int (val (ss.take (i + 1)).reverse xx yy p)) H'
/-- what look is to do within the i-th stage: it asks the one below -/
def LookIs (K : PySem.W.Frag) (T : List NTab) (spl : Addr → NF → Sp) (i : Nat) : Prop := ∀ (H1 : Hp) (f : Addr) (F : NF) (cs : Cs) (d h m l : Addr) (kvs kh : List (Key × V)) (nm : List Str) (ss : List Stg) (mv : List (List Key × V)) (x : Str) (u v : Int) (p n : Nat) (dd : Int) (Q : VK), i ≠ 0 →
  CloAt H1 f F lookF [some (.ref d), some (.ref h), some (.ref m), some (.ref l)] cs → LookF F → NumAt K H1 d h m kvs kh nm ss mv → TabsN T H1 → nm[i - 1]? = some x → H1 l = some (.lst [.str x]) → ChOk (ss.take i).reverse n dd → p < n → mv.length + i ≤ 1000000 →
  (∀ H2 mv', Kp T (On m) H1 H2 → H2 m = some (.dT mv') → MemoOk nm ss mv' → mv'.length ≤ mv.length + i → Q (.int (val (ss.take i).reverse u v p)) H2) → spl f F [.int 0, .int u, .int v, .int p] H1 Q E0
abbrev TBs (base : Heap) (mg : Str → Option Value) (K : PySem.W.Frag) : Prop := TabB base mg (He.cT K dNum).1 (He.cT K dNum).2 ∧ TabB base mg (He.cT K dWho).1 (He.cT K dWho).2
theorem tabs_same {K : PySem.W.Frag} {P : Addr} : ∀ p ∈ tabs K, p.1 = P → p.2 = nmT := fun p hp _ => by
  unfold tabs at hp
  rcases List.mem_cons.mp hp with z | z
  · rw [z]
  · rw [List.mem_singleton.mp z]
theorem num_step (X : Tx w K mg) (TB : TBs base mg K) {m0 kl : Nat} {spl : Addr → NF → Sp} (C : Cal P w K mg base kl spl) (L : ∀ i, i < m0 → LookIs K (tabs K) spl i) : Hd P w K mg base (kl + 5) (He.ga K "numbers_at") (U (spNum K (tabs K)) m0) := by
  refine mk_hdC (p := dNum) rfl X.F_numbers_at sc_numbers_at (fun _ _ _ _ ⟨_, _, _, _, _, _, _, _, _, _, _, _, _, _, _, _, e, _⟩ => by rw [e]; rfl) (fun A outer s H vs Q E hr hsp => ?_)
  obtain ⟨i, him, d, h, m, kvs, kh, nm, ss, mv, x, xx, yy, p, n, dd, rfl, N, hT, hx, ok, hpn, hsz, q⟩ := hsp
  have nd := sc_numbers_at.nd
  refine ⟨_, pss_cons (ps_set (i := 7) nd rfl (.inl rfl) (pe_tup (pa_cons (pv 3) (pa_cons (pv 4) (pa_cons (pv 5) (pa_cons (pv 6) pa_nil))))))
    (pss_cons (ps_if (pt_cmp (pc_dnotin (hu_of hr) (pv 7) (pv 2)))
      (pss_cons (ps_set (i := 8) nd rfl (.inl rfl) (pe_dget (hu_of hr) (pv 0) (pv 3) (fun _ _ => rfl)))
      (pss_cons (ps_set (i := 10) nd rfl (.inr rfl) (pe_h (ok_made (T := tabs K) X) hr X.g_made_of (pa_cons (pv 8) pa_nil)))
      (pss_cons (ps_ndefMS (st := s_look) (T := tabs K) (nm := nmT) (i := 9) rfl TB.1 rfl List.mem_cons_self (by show nmT 460 _ = ("numbers_at.<locals>." : Str) ++ "look"; decide +kernel) tabs_same look_free rfl rfl rfl nd rfl (.inl rfl) (.inl rfl))
      (pss_one (ps_dput (hu_of hr) (pv 2) (pv 7) (pe_hC (js := [0, 1, 2, 10]) (fr := lookF) (ok_told_by (T := tabs K) (M := On m) X C) (fun ok => Caps.made ok (scope := C8.fnScope s_look) look_free look_has rfl) (fun _ => rfl) hr X.g_told_by (pa_cons (pv 8) (pa_cons (pe_lc (own := [("one", 11)]) (g := gName 11) (by rfl) nd (pi_list (pv 10)) (blkOk_by (N := numN) (sc := defScope s_numbers_at) (by decide +kernel))
          (fun _ _ _ _ _ => pg_name (i := 11) nd rfl (Or.inl rfl)) (fun _ _ _ _ _ => pts_nil) (fun _ _ _ _ _ => pe_dget (hu_of hr) (pv 1) (pv 11) (fun _ _ => rfl)))
          (pa_cons (pv 9) (pa_cons (pv 4) (pa_cons (pv 5) (pa_cons (pv 6) pa_nil))))))) rfl))))) pss_nil)
    (pss_one (ps_ret (pe_dget (hu_of hr) (pv 2) (pv 7) (fun _ _ => rfl))))), ?_⟩
  obtain ⟨sg, sa, of, es, ea, hsa, hmade⟩ := N.S.get hx
  have hil : i < nm.length := (List.getElem?_eq_some_iff.mp hx).1
  have few := N.S.few
  refine ⟨_, rfl, _, rfl, _, rfl, _, rfl, small_tup (by show (4 : Nat) ≤ 1000; decide), fun kt hkt => ?_⟩
  have k1 : Kp (tabs K) No H (upd H kt (.tup [.str x, .int xx, .int yy, .int p])) := .new hkt
  generalize hH1 : upd H kt (.tup [.str x, .int xx, .int yy, .int p]) = H1 at k1
  have ht1 : H1 kt = some (.tup [.str x, .int xx, .int yy, .int p]) := by rw [← hH1]; exact upd_same
  have N1 := N.kn k1
  refine ⟨_, rfl, _, rfl, m, _, rfl, DGet.t (k := [.inr x, .inl xx, .inl yy, .inl p]) N1.me ht1, _, rfl, ?_⟩
  cases hv : valV mv [.inr x, .inl xx, .inl yy, .inl p] with
  | some r =>
    refine iteF ?_
    refine ⟨_, rfl, _, rfl, m, r, rfl, ?_, ?_⟩
    · rw [← hv]
      exact DGet.t (k := [.inr x, .inl xx, .inl yy, .inl p]) N1.me ht1
    · rw [N.ok i x xx yy p r hx hv]
      exact q H1 mv k1.any N1.me N.ok (by omega)
  | none =>
    refine iteT ?_
    refine ⟨_, rfl, _, rfl, d, .ref sa, rfl, dget_k (k := .inr x) N1.st ea, ?_⟩
    refine ⟨_, rfl, sa, of, sg, rfl, hsa.kp k1 NoPic.no, fun l H2 hl k2 hl2 => ?_⟩
    have k12 := k1.tr k2
    refine ⟨k12.tb hT, fun f c' H3 eN _ hT3 hf0 hf3 hc3 => ?_⟩
    have k3 : Kp (tabs K) No H2 H3 := .ofExt eN hT3
    have k13 := k12.tr k3
    have N3 := N.kn k13
    have hl3 := k3.lst hl2 id
    have ht3 := (k2.tr k3).tp _ _ ht1
    refine ⟨_, rfl, _, rfl, l, rfl, ⟨_, SqL.of hl3⟩, fun D hD => lc_mapL (T := tabs K) (M := No) (R := RSh ss i) (G := G0) hD hl3 id True.intro (fun j x5 H4 hx5 p5 => ?_) fun H4 acc k4 e4 el4 ha4 _ => ?_⟩
    · refine ⟨rfl, ?_⟩
      rw [hmade] at hx5
      have hx5' : x5 = .str (nm.getD (i - 1) "") ∧ i ≠ 0 ∧ j < 1 := by
        split at hx5
        · simp at hx5
        · rename_i hne0
          match j, hx5 with
          | 0, hx5 => exact ⟨(Option.some.inj hx5).symm, hne0, Nat.one_pos⟩
      obtain ⟨rfl, hi0, hj⟩ := hx5'
      have hlt2 : i - 1 < nm.length := by omega
      have e1 : nm[i - 1]? = some (nm.getD (i - 1) "") := by rw [getD_of (List.getElem?_eq_getElem hlt2)]; exact List.getElem?_eq_getElem hlt2
      have N4 := N3.kn p5.kp
      obtain ⟨sh, n5, d5, a1, a2, a3⟩ := N4.SH.at_ (i - 1) _ hlt2 e1
      refine ⟨_, rfl, _, rfl, h, .ref sh, rfl, dget_k (k := .inr (nm.getD (i - 1) "")) N4.sh a1, ?_⟩
      exact p5.next RSh.tst id hD .refl (line_big (by omega)) ⟨sh, n5, d5, rfl, a2, by rw [show i - 1 + 1 = i by omega] at a3; exact a3⟩ fun _ => True.intro
    · have k14 := k13.tr k4
      have N4 := N.kn k14
      have T4 := k14.tb hT
      refine ⟨_, rfl, _, rfl, _, rfl, _, rfl, fun cs cok n4 => ?_⟩
      have ka : Kp (tabs K) No H4 (addC cs H4) := .add n4
      have hQ : ("numbers_at.<locals>." : Str) ++ "look" = "numbers_at.<locals>.look" := by decide +kernel
      have hf4 := k4.kp _ _ hf3 id (fun ps => fnO_ne ps)
      have hc4 := k4.kp _ _ hc3 id codeO_ne
      have Na := N4.kn ka
      have Ta := ka.tb T4
      have hl4 := ka.lst (k4.lst hl3 id) id
      have hsh := (shs_of (ss := ss) (i := i) (by rw [← N.S.len]; omega) e4 (by rw [el4, List.length_map, hmade]; split <;> rfl) ha4)
      have ok2 := ok
      rw [chain_eq es] at ok2
      have hsa4 := hsa.kp (k14.tr ka) NoPic.no
      have ht4 := k4.tp _ _ ht3
      refine ⟨sa, .ref D, f, _, xx, yy, p, of, sg, _, n, dd, fun H' => ∃ mv', H' m = some (.dT mv') ∧ MemoOk nm ss mv' ∧ mv'.length ≤ mv.length + i, True.intro, rfl, n4.add_ext hf4, fun H5 k5 => k5.kp _ _ (n4.add_ext hf4) id (fun ps => fnO_ne ps), hsa4, NoPic.dT Na.me, ok2, hpn, fun H5 k5 => ⟨mv, k5.dT Na.me id, N.ok, by omega⟩, fun hne H5 u v Q5 k5 q5 => ?_, fun H5 k5 g5 => ?_⟩
      · have i0 : i ≠ 0 := fun z => hne (by rw [z]; rfl)
        have t5 : Trk cs H5 := fun b o e => k5.kp _ _ (addC_at e) id (fun ps z => by unfold CellX at z; cases z)
        have N5 := Na.kn k5
        have hlt2 : i - 1 < nm.length := by omega
        have e1 : nm[i - 1]? = some (nm.getD (i - 1) "") := by rw [getD_of (List.getElem?_eq_getElem hlt2)]; exact List.getElem?_eq_getElem hlt2
        rw [hmade, if_neg i0] at hl4
        obtain ⟨d0, okt⟩ := ok2.tail hne
        refine L i him H5 f _ cs d h m l kvs kh nm ss mv _ u v p n d0 Q5 i0 ⟨k5.kp _ _ (n4.add_ext hf4) id (fun ps => fnO_ne ps), k5.kp _ _ (n4.add_ext hc4) id codeO_ne, cok, t5⟩ ⟨_, _, by rw [← hQ]; rfl⟩ N5 (k5.tb Ta) e1 (k5.lst hl4 id) okt hpn (by omega) fun H6 mv' k6 e6 o6 l6 => q5 H6 k6 ⟨mv', e6, o6, l6⟩
      · obtain ⟨mv', e5, o5, l5⟩ := g5
        have nm5 : ∀ b o, cs b = some o → b ≠ m := fun b o e z => by
          have e2 := addC_at (H := H4) e
          rw [z, Na.me] at e2
          unfold CellX at e2
          cases e2
        have t5 : Trk cs H5 := fun b o e => k5.kp _ _ (addC_at e) (nm5 b o e) (fun ps z => by unfold CellX at z; cases z)
        have kb := Kp.back n4 cok t5 k5
        have me5 : subC cs H5 m = some (.dT mv') := t5.sub_ext cok e5 fun o v _ z => by unfold CellX at z; cases z
        have ht5 := kb.tp _ _ ht4
        refine ⟨t5, _, rfl, _, rfl, m, _, rfl, DPut.t (k := [.inr x, .inl xx, .inl yy, .inl p]) me5 ht5 (line_big (by omega)), ?_⟩
        rw [← chain_eq es]
        have kp6 := Kp.put (T := tabs K) (o' := .dT (putK mv' [.inr x, .inl xx, .inl yy, .inl p] (.int (val (ss.take (i + 1)).reverse xx yy p)))) me5 True.intro
        refine ⟨_, rfl, _, rfl, m, .int (val (ss.take (i + 1)).reverse xx yy p), rfl, ?_, ?_⟩
        · have g := DGet.t (k := [.inr x, .inl xx, .inl yy, .inl p]) (kvs := putK mv' [.inr x, .inl xx, .inl yy, .inl p] (.int (val (ss.take (i + 1)).reverse xx yy p))) (by exact upd_same) (kp6.tp _ _ ht5)
          rw [valV_put, if_pos rfl] at g
          exact g
        · have lput := putK_len mv' [.inr x, .inl xx, .inl yy, .inl (p : Int)] (.int (val (ss.take (i + 1)).reverse xx yy p))
          exact q _ _ ((k14.any.tr kb).tr kp6) upd_same (o5.put N.S.nd hx) (by omega)
end
end K9

set_option maxHeartbeats 4000000
namespace K9
open PySem PySem.Spec PyProof.Rows L2 NdefX LamX
section
variable {P : Program} {w : World} {K : PySem.W.Frag} {mg : Str → Option Value} {base : Heap} {T : List NTab}
/-- look, the cells untracked -/
def spLook (K : PySem.W.Frag) (T : List NTab) (i : Nat) (ws : List (Option V)) : Sp := fun vs H Q _ => ∃ (d h m l : Addr) (kvs kh : List (Key × V)) (nm : List Str) (ss : List Stg) (mv : List (List Key × V)) (x : Str) (u v : Int) (p n : Nat) (dd : Int), ws = [some (.ref d), some (.ref h), some (.ref m), some (.ref l)] ∧ vs = [.int 0, .int u, .int v, .int p] ∧
  NumAt K H d h m kvs kh nm ss mv ∧ TabsN T H ∧ nm[i]? = some x ∧ H l = some (.lst [.str x]) ∧ ChOk (ss.take (i + 1)).reverse n dd ∧ p < n ∧ mv.length + (i + 1) ≤ 1000000 ∧
  ∀ H' mv', Kp T (On m) H H' → H' m = some (.dT mv') → MemoOk nm ss mv' → mv'.length ≤ mv.length + (i + 1) → Q (.int (val (ss.take (i + 1)).reverse u v p)) H'
theorem look_ns : NScope lookN lookP lookF (C8.fnScope s_look) := nscope_by (by decide +kernel)
theorem look_nok (X : Tx w K mg) {m0 k : Nat} (A : Hd P w K mg base k (He.ga K "numbers_at") (U (spNum K T) m0)) (f : Addr) (F : NF) (hF : LookF F) : NOk P w K mg base CX0 (k + 1) f F lookP lookF (fun ws => U (fun i => spLook K T i ws) m0) := by
  obtain ⟨cl, c, rfl⟩ := hF
  refine nok_of (N := lookN) look_ns (fun doc pm ctv us hl => ?_) (fun _ _ _ _ _ ⟨_, _, _, _, _, _, _, _, _, _, _, _, _, _, _, _, _, _, e, _⟩ => by rw [e]; rfl) (fun A' outer s H vs ws Q E hr hf hc hw hsp => ?_)
  · match us, hl with
    | [_, _, _, _], _ => kernel_rfl
  · obtain ⟨i, him, d, h, m, l, kvs, kh, nm, ss, mv, x, u, v, p, n, dd, rfl, rfl, N, hT, hx, hl, ok, hp, hz, q⟩ := hsp
    refine ⟨_, pss_one (ps_ret (pe_h A hr X.g_numbers_at (pa_cons (pv 4) (pa_cons (pv 5) (pa_cons (pv 6) (pa_cons (pe_ix ix_list (pv 7) (pv 0) (fun _ _ => rfl)) (pa_cons (pv 1) (pa_cons (pv 2) (pa_cons (pv 3) pa_nil)))))))))  , ?_⟩
    refine ⟨_, rfl, _, rfl, _, rfl, _, rfl, _, rfl, _, _, _, _, rfl, rfl, SqL.of hl, atI_nat (j := 0) rfl, ?_⟩
    exact ⟨_, rfl, _, rfl, _, rfl, i, him, d, h, m, kvs, kh, nm, ss, mv, x, u, v, p, n, dd, rfl, N, hT, hx, ok, hp, hz, q⟩
theorem NumAt.sub {H : Hp} {d h m : Addr} {kvs kh : List (Key × V)} {nm : List Str} {ss : List Stg} {mv : List (List Key × V)} {cs : Cs} {cl : List (Str × Addr)} {fr : List Str} {ws : List (Option V)} (N : NumAt K H d h m kvs kh nm ss mv) (t : Trk cs H) (ok : CsOk cl fr ws cs) : NumAt K (subC cs H) d h m kvs kh nm ss mv :=
  ⟨t.sub_ext ok N.st fun o v _ z => (by unfold CellX at z; cases z), t.sub_ext ok N.sh fun o v _ z => (by unfold CellX at z; cases z), t.sub_ext ok N.me fun o v _ z => (by unfold CellX at z; cases z),
    N.S.keep (fun b xs e => t.sub_ext ok e fun o v _ z => (by unfold CellX at z; cases z)) fun b d t' p e => t.sub_ext ok e fun o v _ z => (by unfold CellX at z; cases z), N.SH.keep fun b xs e => t.sub_ext ok e fun o v _ z => (by unfold CellX at z; cases z), N.ok⟩
theorem cell_not {H : Hp} {m : Addr} {cs : Cs} {o : HO} (t : Trk cs H) (e : H m = some o) (n : ∀ u, o ≠ CellX m u) : ∀ b u, cs b = some u → ¬ On m b := fun b u eb z => by
  have e2 := t b u eb
  rw [z, e] at e2
  exact n u (by have := Option.some.inj e2; rw [this])
theorem look_is {i m0 : Nat} (him : i < m0) : LookIs K T (spClo LookF lookF fun _ _ ws => U (fun i => spLook K T i ws) m0) (i + 1) := by
  intro H1 f F cs d h m l kvs kh nm ss mv x u v p n dd Q _ clo hF N hT hx hl ok hp hz q
  have t := clo.tr
  refine ⟨_, cs, hF, clo, i, him, d, h, m, l, kvs, kh, nm, ss, mv, x, u, v, p, n, dd, rfl, rfl, N.sub t clo.ok, t.tabs clo.ok hT, hx, t.sub_ext clo.ok hl fun o v _ z => (by unfold CellX at z; cases z), ok, hp, hz, fun H' mv' k e o l nu => ?_⟩
  exact q _ mv' (Kp.forth t clo.ok k nu (cell_not t N.me fun u z => by unfold CellX at z; cases z)) (nu.add_ext e) o l
theorem ok_num (X : Tx w K mg) (TB : TBs base mg K) : ∀ m, Hd P w K mg base (6 * m + 1) (He.ga K "numbers_at") (U (spNum K (tabs K)) m)
  | 0 => mk_hd (k := 0) X.F_numbers_at sc_numbers_at (fun _ _ _ _ ⟨_, h, _⟩ => absurd h (Nat.not_lt_zero _)) (fun _ _ _ _ _ _ _ _ _ ⟨_, h, _⟩ => absurd h (Nat.not_lt_zero _))
  | m + 1 => (num_step X TB (Cal.of (look_nok X (ok_num X TB m))) fun i hi => match i, hi with
    | 0, _ => fun _ _ _ _ _ _ _ _ _ _ _ _ _ _ _ _ _ _ _ _ z => absurd rfl z
    | i + 1, hi => look_is (Nat.lt_of_succ_lt_succ hi)).mono (by omega)
end
end K9

set_option maxHeartbeats 4000000
namespace K9
open PySem PySem.Spec PyProof.Rows L2 NdefX LamX
/-! ### tuple(list) -/
def rTupL : List V → Hp → VK → Prop := fun xs H Q => ∃ p ys, xs = [V.ref p] ∧ H p = some (.lst ys) ∧ ∀ t, H t = none → Q (.ref t) (upd H t (.tup ys))
theorem call_tupL {X : Cx} : CallR X (.type "tuple") rTupL := fun pins s σ H xs us Q I r ⟨p, ys, e, h1, q⟩ => call_tuple_of pins s σ H xs us Q I r ⟨p, ys, e, .inl ⟨SqL.of h1, q⟩⟩
theorem pe_tuple {X : Cx} {a : Expr} {ta : TE} {p pos : Pos} (hm : X.mg "tuple" = none) (ha : PE X a ta) (hg : Gl X "tuple" := by rfl) (n1 : starEach [a] X.env = (false, eval a X.env) :: starEach [] X.env := by rfl) : PE X (.Call (.Name "tuple" p) [a] [] pos) (tCB rTupL (tCons ta tNil)) :=
  pe_callTy call_tupL hg hm bb_tuple (pa_cons ha pa_nil n1) (by decide) (by decide) n1
/-- a list of references, item by item -/
theorem acc_refs {F : Nat → Addr → Prop} : ∀ {acc : List V}, (∀ j v, acc[j]? = some v → ∃ r, v = .ref r ∧ F j r) → ∃ rs : List Addr, acc = rs.map V.ref ∧ ∀ j r, rs[j]? = some r → F j r := fun {acc} => by
  induction acc generalizing F with
  | nil => exact fun _ => ⟨[], rfl, fun j r e => by simp at e⟩
  | cons a acc ih =>
    intro h
    obtain ⟨r, rfl, f⟩ := h 0 a rfl
    obtain ⟨rs, rfl, g⟩ := ih (F := fun j => F (j + 1)) fun j v e => h (j + 1) v e
    exact ⟨r :: rs, rfl, fun j => match j with
      | 0 => fun r e => by rw [← Option.some.inj e]; exact f
      | j + 1 => fun r e => g j r e⟩
def rowOf (win : Win) (v3 : Int → Int → Nat → Int) (p j : Nat) : List Int := (List.range win.w.toNat).map fun (i : Nat) => v3 (win.l + (i : Int)) (win.u + (j : Int)) p
def planeOf (win : Win) (v3 : Int → Int → Nat → Int) (p : Nat) : List (List Int) := (List.range win.h.toNat).map fun j => rowOf win v3 p j
def grid (win : Win) (many : Nat) (v3 : Int → Int → Nat → Int) : List (List (List Int)) := (List.range many).map fun p => planeOf win v3 p
/-- what is asked of tell -/
structure TellP (T : List NTab) (M : Addr → Prop) (spl : Addr → NF → Sp) (win : Win) (many : Nat) (v3 : Int → Int → Nat → Int) (f : Addr) (F : NF) (PG : Nat → Hp → Prop) : Prop where
  fn : ∀ k H, PG k H → H f = some (FnO f F)
  kn : ∀ k H H', PG k H → Kp T No H H' → PG k H'
  wl : ∀ k H D xs ys, PG k H → H D = some (.lst xs) → PG k (upd H D (.lst ys))
  mm : ∀ k H b, PG k H → M b → H b ≠ none
  call : ∀ k H x y (p : Nat) Q, PG k H → inW win x y → p < many → k < many * (win.h.toNat * win.w.toNat) → (∀ H', Kp T M H H' → PG (k + 1) H' → Q (.int (v3 x y p)) H') → spl f F [.int x, .int y, .int p] H Q E0
section
variable {P : Program} {w : World} {K : PySem.W.Frag} {mg : Str → Option Value} {base : Heap} {T : List NTab} {M : Addr → Prop} {spl : Addr → NF → Sp} {kl : Nat}
abbrev pbS : Scope := { kind := .function, names := [(".0", .local), ("y", .cell), ("tuple", .globalImplicit), ("range", .globalImplicit), ("left", .cell), ("plane", .cell), ("tell", .cell), ("wide", .cell)], isGenerator := false, isCoroutine := false }
abbrev pbN : List Str := ["window", "many", "tell", "left", "up", "wide", "high", "found", "plane", "rows", "x", "y"]
def spPB (T : List NTab) (spl : Addr → NF → Sp) : Sp := fun vs H Q _ => ∃ (M : Addr → Prop) (wa : Addr) (win : Win) (many : Nat) (v3 : Int → Int → Nat → Int) (f : Addr) (F : NF) (PG : Nat → Hp → Prop), vs = [.ref wa, .int many, .ref f] ∧ WinAt H wa win ∧ WinOk win ∧ many ≤ 4 ∧ TellP T M spl win many v3 f F PG ∧ PG 0 H ∧
  ∀ H' t, Kp T M H H' → PG (many * (win.h.toNat * win.w.toNat)) H' → PlanesAt H' t (grid win many v3) → Q (.ref t) H'
theorem ok_planes_by (X : Tx w K mg) (C : Cal P w K mg base kl spl) : Hd P w K mg base (kl + 1) (He.ga K "planes_by") (spPB T spl) := by
  refine mk_hd X.F_planes_by sc_planes_by (fun _ _ _ _ ⟨_, _, _, _, _, _, _, _, e, _⟩ => by rw [e]; rfl) (fun cdv A outer s H vs Q E hr h => ?_)
  obtain ⟨M, wa, win, many, v3, f, F, PG, rfl, hw, wok, hm, TP, g0, q⟩ := h
  have nd := sc_planes_by.nd
  refine ⟨_, pss_cons (ps_asg (pv 0) (pg_tup rfl (pgs_cons (pg_name (i := 3) nd rfl (.inr rfl)) (pgs_cons (pg_name (i := 4) nd rfl (.inl rfl)) (pgs_cons (pg_name (i := 5) nd rfl (.inr rfl)) (pgs_cons (pg_name (i := 6) nd rfl (.inl rfl)) pgs_nil))))))
    (pss_cons (ps_set (i := 7) nd rfl (.inl rfl) (pe_lst pa_nil))
    (pss_cons (ps_for PassesOwn.never rfl (pi_range1 rfl X.f_range (pa_cons (pv 1) pa_nil)) (pg_name (i := 8) nd rfl (.inr rfl))
      (pss_cons (ps_setLc (i := 9) (own := [("y", 11)]) (g := gName 11) (by rfl) nd rfl rfl (sw_true rfl rfl rfl (by decide +kernel)) (pi_range2 rfl X.f_range (pa_cons (pv 4) (pa_cons (pe_op op_add (pv 4) (pv 6)) pa_nil))) (blkOk_by (N := pbN) (sc := defScope s_planes_by) (by decide +kernel))
        (fun _ _ _ _ _ => pg_name (i := 11) nd rfl (Or.inr rfl)) (fun _ _ _ _ _ => pts_nil)
        (fun _ _ _ _ _ => pe_tuple X.f_tuple (pe_lc (own := [("x", 10)]) (g := gName 10) (by rfl) nd (pi_range2 rfl X.f_range (pa_cons (pv 3) (pa_cons (pe_op op_add (pv 3) (pv 5)) pa_nil))) (blkOk_by (N := pbN) (sc := pbS) (by decide +kernel))
          (fun _ _ _ _ _ => pg_name (i := 10) nd rfl (Or.inl rfl)) (fun _ _ _ _ _ => pts_nil)
          (fun _ _ _ _ _ => pe_callF C hr (i := 2) rfl (.inr (.inl rfl)) (pa_cons (pv 10) (pa_cons (pv 11) (pa_cons (pv 8) pa_nil)))))))
      (pss_one (ps_expr (pe_bm PySem.F.plainAttrs_list PySem.F.slot_list_append PySem.F.type_list_append mt_append (pv 7) (pa_cons (pe_tuple X.f_tuple (pv 9)) pa_nil))))))
    (pss_one (ps_ret (pe_tuple X.f_tuple (pv 7)))))), ?_⟩
  have o1 := wok.ol
  have o2 := wok.ou
  have o3 := wok.ow
  have o4 := wok.oh
  refine ⟨_, rfl, wa, _, rfl, SqT.of hw, rfl, _, _, rfl, _, _, rfl, _, _, rfl, _, _, rfl, rfl, ?_⟩
  refine ⟨Nat.zero_le _, fun fd hfd => ?_⟩
  have kf : Kp T No H (upd H fd (.lst [])) := .new hfd
  refine ⟨_, rfl, (many : Int), rfl, by omega, by omega, ?_⟩
  have nMfd : ¬ M fd := fun z => TP.mm 0 H fd g0 z hfd
  refine for_range (lo := 0) (n := many) (fun p σ H' => ∃ (pl rw : Option V) (fs : List Addr), σ = [some (.ref wa), some (.int many), some (.ref f), some (.int win.l), some (.int win.u), some (.int win.w), some (.int win.h), some (.ref fd), pl, rw, none, none] ∧ Kp T M H H' ∧ PG (p * (win.h.toNat * win.w.toNat)) H' ∧ H' fd = some (.lst (fs.map V.ref)) ∧ All2 (PlaneAt H') fs ((List.range p).map fun p => planeOf win v3 p)) ?_ (fun p σ H1 hp hv => ?_) fun σ H1 hv => ?_
  · exact ⟨none, none, [], rfl, kf.any, by rw [Nat.zero_mul]; exact TP.kn _ _ _ g0 kf, upd_same, ⟨rfl, fun i a x e => by simp at e⟩⟩
  · obtain ⟨pl, rw0, fs, rfl, k1, g1, hfd1, hfs⟩ := hv
    rw [Int.zero_add]
    refine ⟨_, rfl, _, rfl, _, rfl, _, _, rfl, rfl, _, _, rfl, ⟨by omega, by omega, by omega, by omega⟩, fun D hD => lc_mapR (T := T) (M := M) (lo := win.u) (n := (win.u + win.h - win.u).toNat) (R := fun j v H => ∃ r, v = .ref r ∧ RowAt H r (rowOf win v3 p j)) (G := fun j H => PG (p * (win.h.toNat * win.w.toNat) + j * win.w.toNat) H) hD ?_ (fun j H2 hj p1 => ?_) fun H2 acc k2 e2 el2 ha2 g2 => ?_⟩
    · rw [Nat.zero_mul]
      exact TP.kn _ _ _ g1 (.new hD)
    · have nMD : ¬ M D := fun z => TP.mm _ H1 D g1 z hD
      refine ⟨rfl, ?_⟩
      refine ⟨_, rfl, _, rfl, _, rfl, _, _, rfl, rfl, _, _, rfl, ⟨by omega, by omega, by omega, by omega⟩, fun D2 hD2 => lc_mapR (T := T) (M := M) (lo := win.l) (n := (win.l + win.w - win.l).toNat) (R := fun i v _ => v = .int (v3 (win.l + (i : Int)) (win.u + (j : Int)) p)) (G := fun i H => PG (p * (win.h.toNat * win.w.toNat) + j * win.w.toNat + i) H) hD2 (TP.kn _ _ _ p1.ex (.new hD2)) (fun i H3 hi p2 => ?_) fun H3 acc k3 e3 el3 ha3 g3 => ⟨D2, acc, rfl, e3, fun t ht => ?_⟩⟩
      · have nMD2 : ¬ M D2 := fun z => TP.mm _ H2 D2 p1.ex z hD2
        have hf := TP.fn _ _ p2.ex
        refine ⟨rfl, ?_⟩
        refine ⟨f, F, rfl, hf, _, rfl, _, rfl, _, rfl, hf, ?_⟩
        refine TP.call _ _ _ _ _ _ p2.ex ⟨⟨by omega, by omega⟩, by omega, by omega⟩ hp ?_ fun H4 k4 g4 => ?_
        · have a1 : j + 1 ≤ win.h.toNat := by omega
          have a2 : i + 1 ≤ win.w.toNat := by omega
          have a3 := Nat.mul_le_mul_right win.w.toNat a1
          have a4 := Nat.mul_le_mul_right (win.h.toNat * win.w.toNat) (show p + 1 ≤ many from hp)
          rw [Nat.succ_mul] at a3 a4
          omega
        · refine p2.next Tst.pure nMD2 hD2 k4 (line_big (by omega)) rfl fun acc' => ?_
          obtain ⟨acc0, e0, _⟩ := p2.acc
          exact TP.wl _ _ _ _ _ g4 (k4.lst e0 nMD2)
      · have el : acc.length = win.w.toNat := by omega
        have er : acc = (rowOf win v3 p j).map V.int := by
          unfold rowOf
          rw [List.map_map]
          refine acc_map (by rw [el, List.length_range]) fun i v x e1 e2 => ?_
          have hx : x = i := by
            have := (List.getElem?_eq_some_iff.mp e2)
            obtain ⟨h1, h2⟩ := this
            rw [List.getElem_range] at h2
            exact h2.symm
          rw [hx]
          exact ha3 i v e1
        have kt := Kp.new (T := T) (M := No) (o := .tup acc) ht
        refine p1.next (fun j' v' H5 H6 k5 ⟨r, e5, h5⟩ => ⟨r, e5, k5 _ _ h5⟩) nMD hD (k3.trN kt) (line_big (by omega)) ⟨t, rfl, ?_⟩ fun acc' => ?_
        · rw [er]
          exact upd_same
        · obtain ⟨acc0, e0, _⟩ := p1.acc
          have g5 := TP.kn _ _ _ g3 kt
          have e6 := (k3.trN kt).lst e0 nMD
          have g6 := TP.wl _ _ _ _ acc' g5 e6
          have en : p * (win.h.toNat * win.w.toNat) + j * win.w.toNat + (win.l + win.w - win.l).toNat = p * (win.h.toNat * win.w.toNat) + (j + 1) * win.w.toNat := by
            rw [Nat.succ_mul]
            omega
          rw [en] at g6
          exact g6
    · have nMD : ¬ M D := fun z => TP.mm _ H1 D g1 z hD
      have el : acc.length = win.h.toNat := by omega
      obtain ⟨rs, rfl, hrs⟩ := acc_refs (F := fun j r => RowAt H2 r (rowOf win v3 p j)) ha2
      rw [List.length_map] at el
      have g2' : PG ((p + 1) * (win.h.toNat * win.w.toNat)) H2 := by
        have en : p * (win.h.toNat * win.w.toNat) + (win.u + win.h - win.u).toNat * win.w.toNat = (p + 1) * (win.h.toNat * win.w.toNat) := by
          rw [Nat.succ_mul, show (win.u + win.h - win.u).toNat = win.h.toNat by omega]
        rw [← en]
        exact g2
      have hfd2 := k2.lst hfd1 nMfd
      refine ⟨_, rfl, .inl ⟨rfl, _, SqL.of hfd2⟩, _, rfl, D, _, rfl, e2, fun t ht => ?_⟩
      have kt := Kp.new (T := T) (M := No) (o := .tup (rs.map V.ref)) ht
      have hfd3 := kt.lst hfd2 id
      have lfs : fs.length = p := by rw [hfs.len, List.length_map, List.length_range]
      refine ⟨fd, _, _, rfl, rfl, hfd3, line_big (by rw [List.length_map]; omega), ?_⟩
      have kw := Kp.put (T := T) (o' := .lst (fs.map V.ref ++ [V.ref t])) hfd3 True.intro
      refine ⟨_, _, fs ++ [t], rfl, ((k1.tr k2).trN kt).trans kw fun c hc => .inr (by rw [hc]; exact hfd), TP.wl _ _ _ _ _ (TP.kn _ _ _ g2' kt) hfd3, by rw [List.map_append]; exact upd_same, ?_⟩
      have tk := fun b xs e => kw.tp b xs (kt.tp b xs e)
      refine ⟨by rw [List.length_append, lfs, List.length_map, List.length_range]; rfl, fun i a x e1 e2 => ?_⟩
      rw [List.getElem?_map] at e2
      have hi : i < p + 1 := by
        have := (List.getElem?_eq_some_iff.mp e1).1
        rw [List.length_append, lfs] at this
        exact this
      have ei : (List.range (p + 1))[i]? = some i := by rw [List.getElem?_range hi]
      rw [ei] at e2
      obtain rfl := (Option.some.inj e2).symm
      by_cases hip : i < p
      · rw [List.getElem?_append_left (by omega)] at e1
        have e3 : ((List.range p).map fun p => planeOf win v3 p)[i]? = some (planeOf win v3 i) := by rw [List.getElem?_map, List.getElem?_range hip]; rfl
        exact ((hfs.at_ i a _ e1 e3).keep k2.tp).keep tk
      · obtain rfl : i = p := by omega
        rw [List.getElem?_append_right (by omega), lfs, Nat.sub_self] at e1
        obtain rfl := Option.some.inj e1
        refine ⟨rs, kw.tp _ _ upd_same, ?_, fun j r row e3 e4 => ?_⟩
        · show rs.length = _
          unfold planeOf
          rw [el, List.length_map, List.length_range]
        · unfold planeOf at e4
          have hj : j < win.h.toNat := by
            have := (List.getElem?_eq_some_iff.mp e3).1
            omega
          rw [List.getElem?_map, List.getElem?_range hj] at e4
          obtain rfl := Option.some.inj e4
          exact tk _ _ (hrs j r e3)
  · obtain ⟨pl, rw0, fs, rfl, k1, g1, hfd1, hfs⟩ := hv
    refine ⟨_, rfl, fd, _, rfl, hfd1, fun t ht => ?_⟩
    exact q _ t (k1.trN (.new ht)) (TP.kn _ _ _ g1 (.new ht)) ⟨fs, upd_same, hfs.mono fun a x z => z.keep (Kp.new (T := T) (M := No) ht).tp⟩
end
end K9

set_option maxHeartbeats 4000000
namespace K9
open PySem PySem.Spec PyProof.Rows L2 NdefX LamX
def netF (d h : Addr) : List (Str × V) := [("stages", .ref d), ("shapes", .ref h)]
theorem netF_st (d h : Addr) : (netF d h).lookup ("stages" : Str) = some (.ref d) := by
  unfold netF
  rw [List.lookup_cons]
  rfl
theorem netF_sh (d h : Addr) : (netF d h).lookup ("shapes" : Str) = some (.ref h) := by
  unfold netF
  simp only [List.lookup_cons]
  rw [show (("shapes" : Str) == "stages") = false by decide +kernel, show (("shapes" : Str) == "shapes") = true by decide +kernel]
theorem netF_no (d h : Addr) {m : Str} (e : (m == ("stages" : Str)) = false ∧ (m == ("shapes" : Str)) = false) : (netF d h).lookup m = none := by
  unfold netF
  simp only [List.lookup_cons, e.1, e.2]
  rfl
theorem NoPic.net {K : PySem.W.Frag} {H : Hp} {na C dx d h : Addr} (i : H na = some (.ins C dx (netF d h))) : NoPic K (On na) H := fun b d' t p e z => by
  have z : b = na := z
  rw [z, i] at e
  have e2 := Option.some.inj e
  injection e2 with _ _ e3
  have e4 := congrArg List.length e3
  exact absurd e4 (by show ¬ (2 : Nat) = 4; decide)
/-- the net at na holds these stages -/
structure NetD (K : PySem.W.Frag) (H : Hp) (na dx d h : Addr) (kvs kh : List (Key × V)) (nm : List Str) (ss : List Stg) : Prop where
  ins : H na = some (.ins (He.ga K "Net") dx (netF d h))
  st : H d = some (.dK kvs)
  sh : H h = some (.dK kh)
  S : Stgs K H kvs nm ss
  SH : ShpI H kh nm ss nm.length
def NetO (K : PySem.W.Frag) (H : Hp) (na : Addr) (nm : List Str) (ss : List Stg) : Prop := ∃ dx d h kvs kh, NetD K H na dx d h kvs kh nm ss
/-- the net's own dicts are none of those that stood there -/
def NetN (K : PySem.W.Frag) (H0 H : Hp) (na : Addr) (nm : List Str) (ss : List Stg) : Prop := ∃ dx d h kvs kh, NetD K H na dx d h kvs kh nm ss ∧ ∀ l l0, H0 l = some (.dK l0) → d ≠ l ∧ h ≠ l
theorem NetD.kp {K : PySem.W.Frag} {T : List NTab} {M : Addr → Prop} {H H' : Hp} {na dx d h : Addr} {kvs kh : List (Key × V)} {nm : List Str} {ss : List Stg} (N : NetD K H na dx d h kvs kh nm ss) (k : Kp T M H H') (n1 : ¬ M na) (n2 : ¬ M d) (n3 : ¬ M h) (np : NoPic K M H) : NetD K H' na dx d h kvs kh nm ss :=
  ⟨k.ins N.ins n1, k.dK N.st n2, k.dK N.sh n3, N.S.kp k np, N.SH.keep k.tp⟩
theorem NetD.kn {K : PySem.W.Frag} {T : List NTab} {H H' : Hp} {na dx d h : Addr} {kvs kh : List (Key × V)} {nm : List Str} {ss : List Stg} (N : NetD K H na dx d h kvs kh nm ss) (k : Kp T No H H') : NetD K H' na dx d h kvs kh nm ss := N.kp k id id id NoPic.no
theorem NetO.kn {K : PySem.W.Frag} {T : List NTab} {H H' : Hp} {na : Addr} {nm : List Str} {ss : List Stg} (N : NetO K H na nm ss) (k : Kp T No H H') : NetO K H' na nm ss := by
  obtain ⟨dx, d, h, kvs, kh, N⟩ := N
  exact ⟨dx, d, h, kvs, kh, N.kn k⟩
/-- one stage more -/
theorem Stgs.put {K : PySem.W.Frag} {H : Hp} {kvs : List (Key × V)} {nm : List Str} {ss : List Stg} (S : Stgs K H kvs nm ss) {x : Str} {s : Stg} {sa : Addr} {of : Str} {n : Nat} {d : Int} (hx : x ∉ nm) (ok : NameOk x) (hf : nm.length + 1 ≤ 24) (hs : StgAt K H sa of s) (hm : madeV s of = if nm.length = 0 then [] else [nm.getD (nm.length - 1) ""]) (ch : ChOk (s :: ss.reverse) n d) :
    Stgs K H (putK kvs (.inr x) (.ref sa)) (nm ++ [x]) (ss ++ [s]) := by
  have hk : (Sum.inr x : Key) ∉ kvs.map (·.1) := by
    rw [S.keys]
    intro z
    obtain ⟨y, hy, e⟩ := List.mem_map.mp z
    exact hx (by rw [← Sum.inr.inj e]; exact hy)
  have len := S.len
  refine ⟨by simp [S.len], ?_, by simpa using hf, fun y hy => ?_, ?_, fun i y t e1 e2 => ?_, fun i hi => ?_⟩
  · rw [List.nodup_append]
    refine ⟨S.nd, by simp, fun a ha b hb z => hx ?_⟩
    rw [← List.mem_singleton.mp hb, ← z]
    exact ha
  · rcases List.mem_append.mp hy with z | z
    · exact S.ok y z
    · rw [List.mem_singleton.mp z]
      exact ok
  · rw [putK_new (valV_no hk), List.map_append, S.keys, List.map_append]
    rfl
  · by_cases h : i < nm.length
    · rw [List.getElem?_append_left h] at e1
      rw [List.getElem?_append_left (by omega)] at e2
      obtain ⟨a, of', h1, h2, h3⟩ := S.at_ i y t e1 e2
      refine ⟨a, of', ?_, h2, ?_⟩
      · rw [valV_put, if_neg fun z => hx (by rw [← Sum.inr.inj z]; exact List.mem_of_getElem? e1)]
        exact h1
      · rw [h3]
        by_cases h0 : i = 0
        · rw [if_pos h0, if_pos h0]
        · rw [if_neg h0, if_neg h0, List.getD_eq_getElem?_getD, List.getD_eq_getElem?_getD, List.getElem?_append_left (by omega)]
    · have hi : i = nm.length := by
        have := (List.getElem?_eq_some_iff.mp e1).1
        simp at this
        omega
      subst hi
      rw [List.getElem?_append_right (Nat.le_refl _), Nat.sub_self] at e1
      rw [List.getElem?_append_right (by omega), len, Nat.sub_self] at e2
      obtain rfl := Option.some.inj e1
      obtain rfl := Option.some.inj e2
      refine ⟨sa, of, ?_, hs, ?_⟩
      · rw [valV_put, if_pos rfl]
      · rw [hm]
        by_cases h0 : nm.length = 0
        · rw [if_pos h0, if_pos h0]
        · rw [if_neg h0, if_neg h0, List.getD_eq_getElem?_getD, List.getD_eq_getElem?_getD, List.getElem?_append_left (by omega)]
  · have hi : i < nm.length + 1 := by simpa using hi
    by_cases h : i < nm.length
    · rw [List.take_append_of_le_length (by omega)]
      exact S.ch i h
    · refine ⟨n, d, ?_⟩
      rw [List.take_of_length_le (by simp; omega)]
      simpa using ch
section
variable {P : Program} {w : World} {K : PySem.W.Frag} {mg : Str → Option Value} {base : Heap} {T : List NTab}
def spNetI (K : PySem.W.Frag) (T : List NTab) : Sp := fun vs H Q _ => ∃ x dx, vs = [.ref x] ∧ H x = some (.ins (He.ga K "Net") dx []) ∧ ∀ H', Kp T (On x) H H' → NetN K H H' x [] [] → Q .non H'
theorem ok_net_init (X : Tx w K mg) : Hd P w K mg base 1 (He.ma K (He.ga K "Net") "__init__") (spNetI K T) := by
  refine mk_hd X.F_Net_init sc_Net_init (fun _ _ _ _ ⟨_, _, e, _⟩ => by rw [e]; rfl) (fun cdv A outer s H vs Q E hr h => ?_)
  obtain ⟨x, dx, rfl, hx, q⟩ := h
  refine ⟨_, pss_cons (ps_fld (pv 0) pe_dnewK rfl) (pss_one (ps_fld (pv 0) pe_dnewK rfl)), ?_⟩
  refine fun d hd => ⟨_, rfl, _, _, _, _, rfl, (Kp.new (T := T) (M := No) hd).ins hx id, X.c_Net, X.n_Net_stages, by decide, ?_⟩
  have k1 : Kp T (On x) H (upd H d (.dK [])) := .new hd
  have h1 := (Kp.new (T := T) (M := No) (o := .dK []) hd).ins hx id
  have k2 := Kp.put (T := T) (o' := .ins (He.ga K "Net") dx (putF "stages" (.ref d) [])) h1 True.intro
  generalize hH2 : upd (upd H d (.dK [])) x (.ins (He.ga K "Net") dx (putF "stages" (.ref d) [])) = H2 at k2
  have hx2 : H2 x = some (.ins (He.ga K "Net") dx (putF "stages" (.ref d) [])) := by rw [← hH2]; exact upd_same
  have hd2 : H2 d = some (.dK []) := k2.dK upd_same fun z => by rw [← z] at hx; rw [hx] at hd; cases hd
  refine fun h hh => ⟨_, rfl, _, _, _, _, rfl, (Kp.new (T := T) (M := No) hh).ins hx2 id, X.c_Net, X.n_Net_shapes, pf (n := 999) (by decide), ?_⟩
  have k3 : Kp T No H2 (upd H2 h (.dK [])) := .new hh
  have hx3 := k3.ins hx2 id
  have k4 := Kp.put (T := T) (o' := .ins (He.ga K "Net") dx (putF "shapes" (.ref h) (putF "stages" (.ref d) []))) hx3 True.intro
  have e : putF "shapes" (V.ref h) (putF "stages" (V.ref d) []) = netF d h := by
    first | rfl | simp [putF, netF]
  have nhx : h ≠ x := fun z => by rw [z, hx2] at hh; cases hh
  have ndx : d ≠ x := fun z => by rw [← z] at hx; rw [hx] at hd; cases hd
  refine q _ (((k1.tr k2).trN k3).tr k4) ⟨dx, d, h, [], [], ⟨by rw [← e]; exact upd_same, k4.dK (k3.dK hd2 id) ndx, k4.dK upd_same nhx, ⟨rfl, List.nodup_nil, Nat.zero_le _, (fun x hx => nomatch hx), rfl, (fun i x s e => nomatch e), fun i hi => absurd hi (Nat.not_lt_zero _)⟩, ⟨rfl, fun k x hk => absurd hk (Nat.not_lt_zero _)⟩⟩, fun l l0 el => ⟨fun z => (by rw [z, el] at hd; cases hd), fun z => ?_⟩⟩
  have lx : ¬ On x l := fun y => by rw [show l = x from y, hx] at el; cases el
  have e2 := (k1.tr k2).dK el lx
  rw [← z, hh] at e2
  cases e2
def spThere : Sp := fun vs H Q _ => ∃ d kvs x v, vs = [.ref d, .str x] ∧ H d = some (.dK kvs) ∧ valV kvs (.inr x) = some v ∧ Q .non H
theorem ok_there (X : Tx w K mg) : Hd P w K mg base 1 (He.ga K "must_be_there") spThere := by
  refine mk_hd X.F_must_be_there sc_must_be_there (fun _ _ _ _ ⟨_, _, _, _, e, _⟩ => by rw [e]; rfl) (fun cdv A outer s H vs Q E hr h => ?_)
  obtain ⟨d, kvs, x, v, rfl, hd, hv, q⟩ := h
  refine ⟨_, pss_one (ps_if (PW.pt (pw_or (pt_not (pt_val (pe_is X.f_isinstance X.f_str (pv 1) bb_str))) (pw_or1 (pt_cmp (pc_dnotin (hu_of hr) (pv 1) (pv 0)))))) (pss_one ps_never) pss_nil), ?_⟩
  refine ⟨_, rfl, isi (ty_str x) k_ss ⟨_, rfl, iteF ?_⟩⟩
  exact ⟨_, rfl, _, rfl, d, some v, rfl, dget_k (k := .inr x) hd hv, _, rfl, iteF q⟩
def spMBW : Sp := fun vs H Q _ => ∃ wa win, vs = [.ref wa] ∧ WinAt H wa win ∧ WinOk win ∧ Q .non H
theorem ok_mbw (X : Tx w K mg) : Hd P w K mg base 4 (He.ga K "must_be_window") spMBW := by
  refine mk_hd X.F_must_be_window sc_must_be_window (fun _ _ _ _ ⟨_, _, e, _⟩ => by rw [e]; rfl) (fun cdv A outer s H vs Q E hr h => ?_)
  obtain ⟨wa, win, rfl, hw, ok, q⟩ := h
  refine ⟨_, pss_one (ps_if (pt_not (pt_val (pe_h (ok_is_win X) hr X.g_is_window (pa_cons (pv 0) pa_nil)))) (pss_one ps_never) pss_nil), ?_⟩
  exact ⟨_, rfl, wa, win, rfl, hw, ok, _, rfl, iteF q⟩
def spNShape (K : PySem.W.Frag) : Sp := fun vs H Q _ => ∃ na nm ss x i, vs = [.ref na, .str x] ∧ NetO K H na nm ss ∧ nm[i]? = some x ∧ ∀ sh n d, ShAt H sh n d → ChOk (ss.take (i + 1)).reverse n d → Q (.ref sh) H
theorem ok_nshape (X : Tx w K mg) : Hd P w K mg base 2 (He.ma K (He.ga K "Net") "shape") (spNShape K) := by
  refine mk_hd X.F_Net_shape sc_Net_shape (fun _ _ _ _ ⟨_, _, _, _, _, e, _⟩ => by rw [e]; rfl) (fun cdv A outer s H vs Q E hr h => ?_)
  obtain ⟨na, nm, ss, x, i, rfl, ⟨dx, d, h, kvs, kh, N⟩, hx, q⟩ := h
  obtain ⟨sg, sa, of, es, ea, _⟩ := N.S.get hx
  obtain ⟨sh, n, dd, a1, a2, a3⟩ := N.SH.at_ i x (List.getElem?_eq_some_iff.mp hx).1 hx
  refine ⟨_, pss_cons (ps_expr (pe_h (ok_there X) hr X.g_must_be_there (pa_cons (pe_fld (pv 0) rfl) (pa_cons (pv 1) pa_nil))))
    (pss_one (ps_ret (pe_dget (hu_of hr) (pe_fld (pv 0) rfl) (pv 1) (fun _ _ => rfl)))), ?_⟩
  refine ⟨_, rfl, _, _, _, _, _, rfl, N.ins, X.c_Net, X.n_Net_stages, netF_st _ _, _, rfl, d, kvs, x, _, rfl, N.st, ea, ?_⟩
  exact ⟨_, rfl, _, _, _, _, _, rfl, N.ins, X.c_Net, X.n_Net_shapes, netF_sh _ _, _, rfl, h, .ref sh, rfl, dget_k (k := .inr x) N.sh a1, q sh n dd a2 a3⟩
def spPut (K : PySem.W.Frag) (T : List NTab) : Sp := fun vs H Q _ => ∃ na nm ss x sa of s n d, vs = [.ref na, .str x, .ref sa] ∧ NetO K H na nm ss ∧ x ∉ nm ∧ NameOk x ∧ nm.length + 1 ≤ 24 ∧ StgAt K H sa of s ∧ madeV s of = (if nm.length = 0 then [] else [nm.getD (nm.length - 1) ""]) ∧ ChOk (s :: ss.reverse) n d ∧
  ∀ H', Kp T (On na) H H' → NetN K H H' na (nm ++ [x]) (ss ++ [s]) → Q .non H'
theorem ok_put (X : Tx w K mg) : Hd P w K mg base 6 (He.ma K (He.ga K "Net") "put") (spPut K T) := by
  refine mk_hd X.F_Net_put sc_Net_put (fun _ _ _ _ ⟨_, _, _, _, _, _, _, _, _, e, _⟩ => by rw [e]; rfl) (fun cdv A outer s H vs Q E hr h => ?_)
  obtain ⟨na, nm, ss, x, sa, of, st, n, dd, rfl, ⟨dx, d, h, kvs, kh, N⟩, hx, okx, few, hs, hm, ch, q⟩ := h
  have nd := sc_Net_put.nd
  refine ⟨_, pss_cons (ps_if (pt_not (pt_val (pe_h (ok_name (T := T) X) hr X.g_is_name (pa_cons (pv 1) pa_nil)))) (pss_one ps_never) pss_nil)
    (pss_cons (ps_if (pt_not (pt_val (pe_h (ok_is_stage (T := T) X) hr X.g_is_stage (pa_cons (pv 2) pa_nil)))) (pss_one ps_never) pss_nil)
    (pss_cons (ps_if (pt_val (pe_h (ok_no_div X) hr X.g_has_no_divisor (pa_cons (pv 2) pa_nil))) (pss_one ps_never) pss_nil)
    (pss_cons (ps_set (i := 3) nd rfl (.inl rfl) (pe_callTy call_dictD (by rfl) X.f_dict bb_dict (pa_cons (pe_fld (pv 0) rfl) pa_nil)))
    (pss_cons (ps_dput (hu_of hr) (pv 3) (pv 1) (pv 2) rfl)
    (pss_cons (ps_set (i := 4) nd rfl (.inl rfl) (pe_h (ok_first (T := T) X) hr X.g_first_missing (pa_cons (pv 2) (pa_cons (pv 3) pa_nil))))
    (pss_cons (ps_if (pt_cmpR op_notN (pv 4) pe_non (nomark _)) (pss_one ps_never) pss_nil)
    (pss_cons (ps_if (pt_cmpR op_isN (pe_h (ok_order (T := T) X) hr X.g_in_order (pa_cons (pv 3) pa_nil)) pe_non (nomark _)) (pss_one ps_never) pss_nil)
    (pss_cons (ps_set (i := 5) nd rfl (.inl rfl) (pe_h (ok_shapes (T := T) X) hr X.g_shapes_of (pa_cons (pv 3) pa_nil)))
    (pss_cons (ps_if (pt_cmpR op_gt (pe_callB call_lenD (by rfl) X.f_len bb_len (pa_cons (pv 3) pa_nil)) (pe_gi X.i_MOST_STAGES) (nomark _)) (pss_one ps_never) pss_nil)
    (pss_cons (ps_fld (pv 0) (pv 3) rfl) (pss_one (ps_fld (pv 0) (pv 5) rfl)))))))))))), ?_⟩
  have hof : st.nargs = 1 → NameOk of := fun h1 => by
    unfold madeV at hm
    rw [if_neg (by omega)] at hm
    split at hm
    · cases hm
    · rename_i hne
      have e := List.head_eq_of_cons_eq hm
      rw [e, List.getD_eq_getElem?_getD, List.getElem?_eq_getElem (by omega)]
      exact N.S.ok _ (List.getElem_mem _)
  refine ⟨_, rfl, x, rfl, okx, fun H1 k1 => ⟨_, rfl, iteF ?_⟩⟩
  refine ⟨_, rfl, sa, of, st, _, n, dd, rfl, hs.kp k1 NoPic.no, ch, hof, fun H2 k2 => ⟨_, rfl, iteF ?_⟩⟩
  have k12 := k1.tr k2
  have N2 := N.kn k12
  have hs2 := hs.kp k12 NoPic.no
  refine ⟨_, rfl, sa, of, st, rfl, hs2, _, rfl, iteF ?_⟩
  refine ⟨_, rfl, _, _, _, _, _, rfl, N2.ins, X.c_Net, X.n_Net_stages, netF_st _ _, d, kvs, rfl, .inl N2.st, fun fr hfr => ?_⟩
  have k3 : Kp T No H2 (upd H2 fr (.dK kvs)) := .new hfr
  have hkl : kvs.length = nm.length := by
    have := congrArg List.length N.S.keys
    rwa [List.length_map, List.length_map] at this
  refine ⟨_, rfl, _, rfl, _, rfl, fr, _, rfl, DPut.k (k := .inr x) upd_same (line_big (by omega)), ?_⟩
  have u3 : (upd H2 fr (.dK kvs)) fr = some (.dK kvs) := upd_same
  have k4 := Kp.put (T := T) (o' := .dK (putK kvs (.inr x) (.ref sa))) u3 True.intro
  have k24 : Kp T No H2 (upd (upd H2 fr (.dK kvs)) fr (.dK (putK kvs (.inr x) (.ref sa)))) := k3.trans k4 fun c hc => .inr (by rw [hc]; exact hfr)
  generalize hH4 : upd (upd H2 fr (.dK kvs)) fr (.dK (putK kvs (.inr x) (.ref sa))) = H4 at k24
  have hf4 : H4 fr = some (.dK (putK kvs (.inr x) (.ref sa))) := by rw [← hH4]; exact upd_same
  have hs4 := hs2.kp k24 NoPic.no
  have N4 := N2.kn k24
  have S4 := N4.S.put hx okx few hs4 hm ch
  refine ⟨_, rfl, _, rfl, sa, fr, _, of, st, rfl, hs4, hf4, fun y hy => ?_, fun H5 k5 => ?_⟩
  · have hy2 : y ∈ nm ++ [x] := by
      rw [hm] at hy
      split at hy
      · cases hy
      · rw [List.mem_singleton.mp hy, List.getD_eq_getElem?_getD, List.getElem?_eq_getElem (by omega)]
        exact List.mem_append_left _ (List.getElem_mem _)
    obtain ⟨i, e⟩ := List.getElem?_of_mem hy2
    obtain ⟨sg, a, of', _, ea, _⟩ := S4.get e
    exact ⟨_, ea⟩
  refine ⟨_, rfl, rfl, _, rfl, iteN (fun z => absurd rfl z) fun _ => ?_⟩
  have hf5 := k5.dK hf4 id
  have S5 := S4.kp k5 NoPic.no
  refine ⟨_, rfl, fr, _, _, _, rfl, hf5, S5, fun l H6 _ k6 _ => ⟨rfl, _, rfl, iteD (fun z => nomatch z) fun _ => ?_⟩⟩
  have hf6 := k6.dK hf5 id
  have S6 := S5.kp k6 NoPic.no
  refine ⟨_, rfl, fr, _, _, _, rfl, hf6, S6, fun h2 kh2 H7 hh2 k7 e7 SI => ?_⟩
  have hf7 := k7.dK hf6 id
  have S7 := S6.kp k7 NoPic.no
  have kl2 : (putK kvs (Sum.inr x) (V.ref sa)).length = nm.length + 1 := by
    have := congrArg List.length S7.keys
    rw [List.length_map, List.length_map, List.length_append] at this
    exact this
  refine ⟨_, rfl, fr, _, rfl, hf7, _, _, rfl, rfl, _, rfl, iteD (fun z => ?_) fun _ => ?_⟩
  · rw [kl2] at z
    omega
  have k17 := (k12.tr (k24.tr (k5.tr (k6.tr k7))))
  have i7 := (N.kn k17).ins
  refine ⟨_, rfl, _, rfl, _, _, _, _, rfl, i7, X.c_Net, X.n_Net_stages, (by show (2 : Nat) < 1000; decide), ?_⟩
  have k8 := Kp.put (T := T) (o' := .ins (He.ga K "Net") dx (putF "stages" (.ref fr) (netF d h))) i7 True.intro
  refine ⟨_, rfl, _, rfl, _, _, _, _, rfl, upd_same, X.c_Net, X.n_Net_shapes, pf (n := 999) (by show (2 : Nat) < 999; decide), ?_⟩
  have u8 : (upd H7 na (.ins (He.ga K "Net") dx (putF "stages" (.ref fr) (netF d h)))) na = some (.ins (He.ga K "Net") dx (putF "stages" (.ref fr) (netF d h))) := upd_same
  have k9 := Kp.put (T := T) (o' := .ins (He.ga K "Net") dx (putF "shapes" (.ref h2) (putF "stages" (.ref fr) (netF d h)))) u8 True.intro
  have k89 := k8.tr k9
  have e : putF "shapes" (V.ref h2) (putF "stages" (V.ref fr) (netF d h)) = netF fr h2 := by
    first | rfl | simp [putF, netF]
  have n1 : fr ≠ na := ne_of hf7 i7 fun z => nomatch z
  have n2 : h2 ≠ na := ne_of e7 i7 fun z => nomatch z
  refine q _ (k17.any.tr k89) ⟨dx, fr, h2, _, kh2, ⟨by rw [← e]; exact upd_same, k89.dK hf7 n1, k89.dK e7 n2, S7.kp k89 (NoPic.net i7), SI.keep k89.tp⟩, fun l l0 el => ⟨fun z => ?_, fun z => ?_⟩⟩
  · have e2 := k12.dK el id
    rw [← z, hfr] at e2
    cases e2
  · have e2 := (k12.tr (k24.tr (k5.tr k6))).dK el id
    rw [← z, hh2] at e2
    cases e2
end
end K9

set_option maxHeartbeats 4000000
namespace K9
open PySem PySem.Spec PyProof.Rows L2 NdefX LamX
abbrev s_tell : Stmt := (defBody s_Net_whole).getD 4 (.Pass ⟨0, 0, 0, 0⟩)
abbrev tellN : List Str := ["x", "y", "plane", "stages", "shapes", "memo", "name"]
abbrev tellP : List Str := ["x", "y", "plane"]
abbrev tellF : List Str := ["stages", "shapes", "memo", "name"]
abbrev whoN : List Str := ["self", "name", "window", "many", "depth", "tell", "memo", "shapes", "stages"]
theorem tell_ns : NScope tellN tellP tellF (C8.fnScope s_tell) := nscope_by (by decide +kernel)
theorem tell_free : ∀ y ∈ (C8.fnScope s_tell).names, y.2 = .free → (defScope s_Net_whole).names.lookup y.1 = some .cell ∨ (defScope s_Net_whole).names.lookup y.1 = some .free := by decide +kernel
theorem tell_has : ∀ y ∈ tellF, (y, NameKind.free) ∈ (C8.fnScope s_tell).names := by decide +kernel
/-- the function tell -/
def TellF (F : NF) : Prop := ∃ cl c, F = NF.of s_tell "tell" "Net.whole.<locals>.tell" cl c
section
variable {P : Program} {w : World} {K : PySem.W.Frag} {mg : Str → Option Value} {base : Heap} {T : List NTab}
def spTellC (K : PySem.W.Frag) (T : List NTab) (i : Nat) (ws : List (Option V)) : Sp := fun vs H Q _ => ∃ (d h m : Addr) (kvs kh : List (Key × V)) (nm : List Str) (ss : List Stg) (mv : List (List Key × V)) (x : Str) (u v : Int) (p n : Nat) (dd : Int), ws = [some (.ref d), some (.ref h), some (.ref m), some (.str x)] ∧ vs = [.int u, .int v, .int p] ∧
  NumAt K H d h m kvs kh nm ss mv ∧ TabsN T H ∧ nm[i]? = some x ∧ ChOk (ss.take (i + 1)).reverse n dd ∧ p < n ∧ mv.length + (i + 1) ≤ 1000000 ∧
  ∀ H' mv', Kp T (On m) H H' → H' m = some (.dT mv') → MemoOk nm ss mv' → mv'.length ≤ mv.length + (i + 1) → Q (.int (val (ss.take (i + 1)).reverse u v p)) H'
theorem tell_nok (X : Tx w K mg) {m0 k : Nat} (A : Hd P w K mg base k (He.ga K "numbers_at") (U (spNum K T) m0)) (f : Addr) (F : NF) (hF : TellF F) : NOk P w K mg base CX0 (k + 1) f F tellP tellF (fun ws => U (fun i => spTellC K T i ws) m0) := by
  obtain ⟨cl, c, rfl⟩ := hF
  refine nok_of (N := tellN) tell_ns (fun doc pm ctv us hl => ?_) (fun _ _ _ _ _ ⟨_, _, _, _, _, _, _, _, _, _, _, _, _, _, _, _, _, e, _⟩ => by rw [e]; rfl) (fun A' outer s H vs ws Q E hr hf hc hw hsp => ?_)
  · match us, hl with
    | [_, _, _], _ => kernel_rfl
  · obtain ⟨i, him, d, h, m, kvs, kh, nm, ss, mv, x, u, v, p, n, dd, rfl, rfl, N, hT, hx, ok, hp, hz, q⟩ := hsp
    refine ⟨_, pss_one (ps_ret (pe_h A hr X.g_numbers_at (pa_cons (pv 3) (pa_cons (pv 4) (pa_cons (pv 5) (pa_cons (pv 6) (pa_cons (pv 0) (pa_cons (pv 1) (pa_cons (pv 2) pa_nil)))))))))  , ?_⟩
    exact ⟨_, rfl, _, rfl, _, rfl, _, rfl, _, rfl, _, rfl, _, rfl, i, him, d, h, m, kvs, kh, nm, ss, mv, x, u, v, p, n, dd, rfl, N, hT, hx, ok, hp, hz, q⟩
/-- the state between the calls of tell -/
def PGw (K : PySem.W.Frag) (T : List NTab) (f : Addr) (F : NF) (cs : Cs) (d h m : Addr) (x : Str) (kvs kh : List (Key × V)) (nm : List Str) (ss : List Stg) (k : Nat) (H : Hp) : Prop := CloAt H f F tellF [some (.ref d), some (.ref h), some (.ref m), some (.str x)] cs ∧ ∃ mv, NumAt K H d h m kvs kh nm ss mv ∧ TabsN T H ∧ mv.length ≤ k * 24
theorem CloAt.kp {M : Addr → Prop} {H H' : Hp} {f : Addr} {F : NF} {fr : List Str} {ws : List (Option V)} {cs : Cs} (c : CloAt H f F fr ws cs) (k : Kp T M H H') (n : ∀ b o, H b = some o → M b → (∃ xs, o = .lst xs) ∨ ∃ xs, o = .dT xs) : CloAt H' f F fr ws cs := by
  refine ⟨k.kp _ _ c.fn (fun z => ?_) (fun ps => fnO_ne ps), k.kp _ _ c.co (fun z => ?_) codeO_ne, c.ok, fun b o e => k.kp _ _ (c.tr b o e) (fun z => ?_) fun ps z => (by unfold CellX at z; cases z)⟩
  · rcases n _ _ c.fn z with ⟨xs, e⟩ | ⟨xs, e⟩ <;> (unfold FnO at e; cases e)
  · rcases n _ _ c.co z with ⟨xs, e⟩ | ⟨xs, e⟩ <;> (unfold CodeO at e; cases e)
  · rcases n _ _ (c.tr b o e) z with ⟨xs, e⟩ | ⟨xs, e⟩ <;> (unfold CellX at e; cases e)
theorem NumAt.kl {H : Hp} {d h m D : Addr} {kvs kh : List (Key × V)} {nm : List Str} {ss : List Stg} {mv : List (List Key × V)} {xs ys : List V} (N : NumAt K H d h m kvs kh nm ss mv) (e : H D = some (.lst xs)) : NumAt K (upd H D (.lst ys)) d h m kvs kh nm ss mv := by
  have k := Kp.put (T := ([] : List NTab)) (o' := .lst ys) e True.intro
  exact ⟨k.dK N.st (ne_of N.st e fun z => nomatch z), k.dK N.sh (ne_of N.sh e fun z => nomatch z), k.dT N.me (ne_of N.me e fun z => nomatch z), N.S.kp k (NoPic.lst e), N.SH.keep k.tp, N.ok⟩
theorem tell_p {i n m0 : Nat} (him : i < m0) {win : Win} {f : Addr} {F : NF} {cs : Cs} {d h m : Addr} {x : Str} {kvs kh : List (Key × V)} {nm : List Str} {ss : List Stg} {dd : Int} (hF : TellF F) (hx : nm[i]? = some x) (few : nm.length ≤ 24) (ok : ChOk (ss.take (i + 1)).reverse n dd) (wok : WinOk win) :
    TellP T (On m) (spClo TellF tellF fun _ _ ws => U (fun i => spTellC K T i ws) m0) win n (fun u v p => val (ss.take (i + 1)).reverse u v p) f F (PGw K T f F cs d h m x kvs kh nm ss) where
  fn := fun k H g => g.1.fn
  kn := fun k H H' ⟨c, mv, N, hT, hl⟩ kp => ⟨c.kp kp fun _ _ _ z => z.elim, mv, N.kn kp, kp.tb hT, hl⟩
  wl := fun k H D xs ys ⟨c, mv, N, hT, hl⟩ e => ⟨c.kp (Kp.put (T := T) (o' := .lst ys) e True.intro) fun b o e2 z => .inl ⟨xs, by
    have z : b = D := z
    rw [z, e] at e2
    exact (Option.some.inj e2).symm⟩, mv, N.kl e, (Kp.put (T := T) (o' := .lst ys) e True.intro).tb hT, hl⟩
  mm := fun k H b ⟨c, mv, N, _, _⟩ z e => by
    have z : b = m := z
    rw [z, N.me] at e
    cases e
  call := fun k H u v p Q ⟨c, mv, N, hT, hl⟩ hin hp hk q => by
    have t := c.tr
    have hil : i < nm.length := (List.getElem?_eq_some_iff.mp hx).1
    have pn := ChOk.planes ok
    have o1 := wok.ow
    have o2 := wok.oh
    have hsz : n * (win.h.toNat * win.w.toNat) ≤ 4 * (48 * 48) := Nat.mul_le_mul pn.2 (Nat.mul_le_mul (by omega) (by omega))
    refine ⟨_, cs, hF, c, i, him, d, h, m, kvs, kh, nm, ss, mv, x, u, v, p, n, dd, rfl, rfl, N.sub t c.ok, t.tabs c.ok hT, hx, ok, hp, by omega, fun H' mv' kk e o l nu => ?_⟩
    have kf := Kp.forth t c.ok kk nu (cell_not t N.me fun u z => by unfold CellX at z; cases z)
    have e' := nu.add_ext e
    refine q _ kf ⟨c.kp kf fun b o e2 z => .inr ⟨mv, ?_⟩, mv', N.kp kf e' o, kf.tb hT, ?_⟩
    · have z : b = m := z
      rw [z, N.me] at e2
      exact (Option.some.inj e2).symm
    · rw [Nat.succ_mul]
      omega
/-- what whole tells -/
def wholePic (ch : List Stg) (n : Nat) (dd : Int) (win : Win) : Pic := ⟨grid win n (fun u v p => val ch u v p), win.l, win.u, dd⟩
theorem whole_ok {ch : List Stg} {n : Nat} {dd : Int} {win : Win} (ok : ChOk ch n dd) (wok : WinOk win) : PicOk (wholePic ch n dd win) := by
  have pn := ChOk.planes ok
  have dn := ChOk.depth ok
  have o1 := wok.ow
  have o2 := wok.oh
  have hl : (wholePic ch n dd win).planes.length = n := by show (grid _ _ _).length = n; unfold grid; rw [List.length_map, List.length_range]
  have hp : ∀ pl ∈ (wholePic ch n dd win).planes, ∃ p, p < n ∧ pl = planeOf win (fun u v p => val ch u v p) p := fun pl hpl => by
    obtain ⟨p, h1, h2⟩ := List.mem_map.mp (show pl ∈ grid _ _ _ from hpl)
    exact ⟨p, List.mem_range.mp h1, h2.symm⟩
  have hr : ∀ p, ∀ row ∈ planeOf win (fun u v p => val ch u v p) p, ∃ j, row = rowOf win (fun u v p => val ch u v p) p j := fun p row h => by
    obtain ⟨j, _, h2⟩ := List.mem_map.mp h
    exact ⟨j, h2.symm⟩
  have hpl : ∀ p, (planeOf win (fun u v p => val ch u v p) p).length = win.h.toNat := fun p => by unfold planeOf; rw [List.length_map, List.length_range]
  have hrl : ∀ p j, (rowOf win (fun u v p => val ch u v p) p j).length = win.w.toNat := fun p j => by unfold rowOf; rw [List.length_map, List.length_range]
  have e0 : ∃ pl ps, (wholePic ch n dd win).planes = pl :: ps := by
    cases e : (wholePic ch n dd win).planes with
    | nil => rw [e] at hl; simp at hl; omega
    | cons a b => exact ⟨a, b, rfl⟩
  obtain ⟨pl, ps, e0⟩ := e0
  obtain ⟨p0, _, rfl⟩ := hp pl (by rw [e0]; exact List.mem_cons_self)
  have hhigh : (wholePic ch n dd win).high = win.h.toNat := by
    unfold Pic.high
    rw [e0]
    exact hpl p0
  have hwide : (wholePic ch n dd win).wide = win.w.toNat := by
    unfold Pic.wide
    rw [e0]
    show ((planeOf win _ p0).headD []).length = _
    cases e : planeOf win (fun u v p => val ch u v p) p0 with
    | nil => have := hpl p0; rw [e] at this; simp at this; omega
    | cons a b =>
      obtain ⟨j, rfl⟩ := hr p0 a (by rw [e]; exact List.mem_cons_self)
      exact hrl p0 j
  refine ⟨by omega, by omega, by omega, by omega, by omega, by omega, fun pl h => ?_, fun pl h row hrow => ?_, fun pl h row hrow z hz => ?_, dn.1, dn.2, wok.ol, wok.ou⟩
  · obtain ⟨p, _, rfl⟩ := hp pl h
    rw [hhigh, hpl]
  · obtain ⟨p, _, rfl⟩ := hp pl h
    obtain ⟨j, rfl⟩ := hr p row hrow
    rw [hwide, hrl]
  · obtain ⟨p, hpn, rfl⟩ := hp pl h
    obtain ⟨j, rfl⟩ := hr p row hrow
    obtain ⟨i, _, rfl⟩ := List.mem_map.mp hz
    exact val_le ok _ _ _ hpn
def spWhole3 (K : PySem.W.Frag) (T : List NTab) (i : Nat) : Sp := fun vs H Q _ => ∃ na nm ss x wa win n d, vs = [.ref na, .str x, .ref wa] ∧ NetO K H na nm ss ∧ TabsN T H ∧ nm[i]? = some x ∧ WinAt H wa win ∧ WinOk win ∧ ChOk (ss.take (i + 1)).reverse n d ∧
  ∀ H' pa, Kp T No H H' → PicAt K H' pa (wholePic (ss.take (i + 1)).reverse n d win) → Q (.ref pa) H'
theorem ok_whole3 (X : Tx w K mg) (TB : TBs base mg K) (m0 : Nat) : Hd P w K mg base (6 * m0 + 10) (He.ma K (He.ga K "Net") "whole") (U (spWhole3 K (tabs K)) m0) := by
  refine mk_hdC (p := dWho) rfl X.F_Net_whole sc_Net_whole (fun _ _ _ _ ⟨_, _, _, _, _, _, _, _, _, _, e, _⟩ => by rw [e]; rfl) (fun A outer s H vs Q E hr hsp => ?_)
  obtain ⟨i, him, na, nm, ss, x, wa, win, n, dd, rfl, ⟨dx, d, h, kvs, kh, N⟩, hT, hx, hw, wok, ok, q⟩ := hsp
  have nd := sc_Net_whole.nd
  have C := Cal.of (tell_nok (T := tabs K) X (ok_num (P := P) X TB m0))
  refine ⟨_, pss_cons (ps_expr (pe_h (ok_there X) hr X.g_must_be_there (pa_cons (pe_fld (pv 0) rfl) (pa_cons (pv 1) pa_nil))))
    (pss_cons (ps_expr (pe_h (ok_mbw X) hr X.g_must_be_window (pa_cons (pv 2) pa_nil)))
    (pss_cons (ps_asg (pe_dget (hu_of hr) (pe_fld (pv 0) rfl) (pv 1) (fun _ _ => rfl)) (pg_tup rfl (pgs_cons (pg_name (i := 3) nd rfl (.inl rfl)) (pgs_cons (pg_name (i := 4) nd rfl (.inl rfl)) pgs_nil))))
    (pss_cons (ps_asg (pe_tup (pa_cons (pe_fld (pv 0) rfl) (pa_cons (pe_fld (pv 0) rfl) (pa_cons pe_dnewT pa_nil)))) (pg_tup rfl (pgs_cons (pg_name (i := 8) nd rfl (.inr rfl)) (pgs_cons (pg_name (i := 7) nd rfl (.inr rfl)) (pgs_cons (pg_name (i := 6) nd rfl (.inr rfl)) pgs_nil)))))
    (pss_cons (ps_ndefMS (st := s_tell) (T := tabs K) (nm := nmT) (i := 5) rfl TB.2 rfl (List.mem_cons_of_mem _ List.mem_cons_self) (by show nmT 523 _ = ("Net.whole.<locals>." : Str) ++ "tell"; decide +kernel) tabs_same tell_free rfl rfl rfl nd rfl (.inl rfl) (.inl rfl))
    (pss_one (ps_ret (pe_pic (T := tabs K) X rfl rfl rfl hr (pa_cons (pe_hC (js := [8, 7, 6, 1]) (fr := tellF) (ok_planes_by (T := tabs K) X C) (fun ok => Caps.made ok (scope := C8.fnScope s_tell) tell_free tell_has rfl) (fun _ => rfl) hr X.g_planes_by (pa_cons (pv 2) (pa_cons (pv 3) (pa_cons (pv 5) pa_nil)))) pa_nil)
      (pk_cons (pe_ix ix_tup (pv 2) pe_int (fun _ _ => rfl)) (pk_cons (pe_ix ix_tup (pv 2) pe_int (fun _ _ => rfl)) (pk_cons (pv 4) pk_nil)))))))))), ?_⟩
  obtain ⟨sg, sa, of, es, ea, _⟩ := N.S.get hx
  have few := N.S.few
  have hil : i < nm.length := (List.getElem?_eq_some_iff.mp hx).1
  obtain ⟨sh, n', dd', a1, a2, a3⟩ := N.SH.at_ i x hil hx
  obtain ⟨rfl, rfl⟩ := ChOk.det a3 ok
  refine ⟨_, rfl, _, _, _, _, _, rfl, N.ins, X.c_Net, X.n_Net_stages, netF_st _ _, _, rfl, d, kvs, x, _, rfl, N.st, ea, ?_⟩
  refine ⟨_, rfl, wa, win, rfl, hw, wok, ?_⟩
  refine ⟨_, rfl, _, _, _, _, _, rfl, N.ins, X.c_Net, X.n_Net_shapes, netF_sh _ _, _, rfl, h, .ref sh, rfl, dget_k (k := .inr x) N.sh a1, ?_⟩
  refine ⟨sh, _, rfl, SqT.of a2, rfl, _, _, rfl, _, _, rfl, rfl, ?_⟩
  refine ⟨_, rfl, _, _, _, _, _, rfl, N.ins, X.c_Net, X.n_Net_stages, netF_st _ _, ?_⟩
  refine ⟨_, rfl, _, _, _, _, _, rfl, N.ins, X.c_Net, X.n_Net_shapes, netF_sh _ _, fun m hm => ?_⟩
  have k1 : Kp (tabs K) No H (upd H m (.dT [])) := .new hm
  have me1 : (upd H m (.dT [])) m = some (.dT []) := upd_same
  generalize hH1 : upd H m (.dT []) = H1 at k1 me1
  refine ⟨small_tup (by show (3 : Nat) ≤ 1000; decide), fun tt htt => ?_⟩
  have k2 : Kp (tabs K) No H1 (upd H1 tt (.tup [.ref d, .ref h, .ref m])) := .new htt
  refine ⟨tt, _, rfl, SqT.of upd_same, rfl, _, _, rfl, _, _, rfl, _, _, rfl, rfl, ?_⟩
  generalize hH2 : upd H1 tt (.tup [.ref d, .ref h, .ref m]) = H2 at k2
  have k12 := k1.tr k2
  refine ⟨k12.tb hT, fun f c' H3 eN _ hT3 hf0 hf3 hc3 => ?_⟩
  have k3 : Kp (tabs K) No H2 H3 := .ofExt eN hT3
  have k13 := k12.tr k3
  have N3 : NumAt K H3 d h m kvs kh nm ss [] := ⟨k13.dK N.st id, k13.dK N.sh id, (k2.tr k3).dT me1 id, N.S.kp k13 NoPic.no, N.SH.keep k13.tp, fun _ _ _ _ _ _ _ e => nomatch e⟩
  have hQ : ("Net.whole.<locals>." : Str) ++ "tell" = "Net.whole.<locals>.tell" := by decide +kernel
  refine ⟨_, rfl, _, rfl, _, rfl, fun cs cok n4 => ?_⟩
  have ka : Kp (tabs K) No H3 (addC cs H3) := .add n4
  have clo : CloAt (addC cs H3) f _ tellF [some (.ref d), some (.ref h), some (.ref m), some (.str x)] cs := ⟨n4.add_ext hf3, n4.add_ext hc3, cok, trk_add⟩
  have pn := ChOk.planes ok
  refine ⟨On m, wa, win, n', fun u v p => val (ss.take (i + 1)).reverse u v p, f, _, _, rfl, (k13.tr ka).tp _ _ hw, wok, pn.2, tell_p (T := tabs K) him (d := d) (h := h) (m := m) (kvs := kvs) (kh := kh) ⟨_, _, by rw [← hQ]; rfl⟩ hx few ok wok, ⟨clo, [], N3.kn ka, ka.tb hT3, Nat.zero_le _⟩, fun H5 t k5 g5 hg => ?_⟩
  obtain ⟨c5, mv, N5, T5, l5⟩ := g5
  have t5 := c5.tr
  have kb := Kp.back n4 cok t5 k5
  have hg6 := hg.keep (H' := subC cs H5) fun b xs e => t5.sub_ext cok e fun o v _ z => by unfold CellX at z; cases z
  have hw6 := (k13.any.tr kb).tp _ _ hw
  refine ⟨t5, ?_⟩
  refine ⟨_, rfl, _, _, _, _, rfl, rfl, SqT.of hw6, atI_nat (j := 0) rfl, ?_⟩
  refine ⟨_, rfl, _, _, _, _, rfl, rfl, SqT.of hw6, atI_nat (j := 1) rfl, ?_⟩
  refine ⟨_, rfl, rfl, rfl, fun px pdx hpx hpdx pne => ?_⟩
  have k7 : Kp (tabs K) No (subC cs H5) (upd (upd (subC cs H5) pdx (.own px)) px (.ins (He.ga K "Picture") pdx [])) := (Kp.new hpdx).tr (.new (by rw [upd_ne pne.symm]; exact hpx))
  refine ⟨px, pdx, t, wholePic (ss.take (i + 1)).reverse n' dd' win, rfl, upd_same, hg6.keep k7.tp, whole_ok ok wok, fun H' k8 e8 => ⟨rfl, ?_⟩⟩
  have kN : Kp (tabs K) No (subC cs H5) H' := (k7.any.tr k8).own hpx
  exact q H' px (((k13.any.tr kb).trN kN).own hm) ⟨pdx, t, e8, hg6.keep kN.tp⟩
end
end K9

set_option maxHeartbeats 4000000
namespace K9
open PySem PySem.Spec PyProof.Rows L2 NdefX LamX
/-- the pen: a list of the script's numbers, a place, a rest -/
def PenAt (H : Hp) (pen l : Addr) (b : Nat) : Prop := ∃ (at_ rest : Int) (ns : List Int), H pen = some (.lst [.ref l, .int at_, .int rest]) ∧ H l = some (.lst (ns.map V.int)) ∧ 0 ≤ at_ ∧ at_ ≤ (b : Int) ∧ 0 ≤ rest
theorem PenAt.kn {T : List NTab} {H H' : Hp} {pen l : Addr} {b : Nat} (h : PenAt H pen l b) (k : Kp T No H H') : PenAt H' pen l b := by
  obtain ⟨a, r, ns, h1, h2, h3⟩ := h
  exact ⟨a, r, ns, k.lst h1 id, k.lst h2 id, h3⟩
theorem PenAt.le {H : Hp} {pen l : Addr} {b b' : Nat} (h : PenAt H pen l b) (hb : b ≤ b') : PenAt H pen l b' := by
  obtain ⟨a, r, ns, h1, h2, h3, h4, h5⟩ := h
  exact ⟨a, r, ns, h1, h2, h3, by omega, h5⟩
theorem PenAt.there {H : Hp} {pen l : Addr} {b : Nat} (h : PenAt H pen l b) {p : Addr} (n : H p = none) : p ≠ pen := fun z => by
  obtain ⟨a, r, ns, h1, _⟩ := h
  rw [z, h1] at n
  cases n
theorem PenAt.there2 {H : Hp} {pen l : Addr} {b : Nat} (h : PenAt H pen l b) {p : Addr} (n : H p = none) : p ≠ l := fun z => by
  obtain ⟨a, r, ns, _, h1, _⟩ := h
  rw [z, h1] at n
  cases n
/-- a write elsewhere -/
theorem PenAt.off {H : Hp} {pen l : Addr} {b : Nat} (h : PenAt H pen l b) {p : Addr} {o : HO} (n1 : p ≠ pen) (n2 : p ≠ l) : PenAt (upd H p o) pen l b := by
  obtain ⟨a, r, ns, h1, h2, h3⟩ := h
  exact ⟨a, r, ns, (upd_ne n1.symm).trans h1, (upd_ne n2.symm).trans h2, h3⟩
theorem PenAt.noPic {K : PySem.W.Frag} {H : Hp} {pen l : Addr} {b : Nat} (h : PenAt H pen l b) : NoPic K (On pen) H := by
  obtain ⟨a, r, ns, h1, _⟩ := h
  exact NoPic.lst h1
section
variable {P : Program} {w : World} {K : PySem.W.Frag} {mg : Str → Option Value} {base : Heap} {T : List NTab}
def spPen (K : PySem.W.Frag) (T : List NTab) : Sp := fun vs H Q _ => ∃ (a : Addr) (ns : List Int), vs = [.ref a] ∧ SqL K H a (ns.map V.int) ∧ ∀ H' pen l, H pen = none → H l = none → Kp T No H H' → PenAt H' pen l 0 → Q (.ref pen) H'
theorem cutI (ns : List Int) (lo hi : Option Int) : ∃ ms : List Int, cutV (ns.map V.int) lo hi = ms.map V.int := by
  unfold cutV
  exact ⟨_, by rw [← List.map_drop, ← List.map_take]⟩
theorem ok_law_pen (X : Tx w K mg) : Hd P w K mg base 1 (He.ga K "_law_pen") (spPen K T) := by
  refine mk_hd X.F_law_pen sc_law_pen (fun _ _ _ _ ⟨_, _, e, _⟩ => by rw [e]; rfl) (fun cdv A outer s H vs Q E hr h => ?_)
  obtain ⟨a, ns, rfl, ha, q⟩ := h
  refine ⟨_, pss_one (ps_ret (pe_lst (pa_cons (pe_callTy call_list_of (by rfl) X.f_list bb_list (pa_cons (pe_slice sl_list (pv 0) po_none (po_some pe_int)) pa_nil)) (pa_cons pe_int (pa_cons pe_int pa_nil))))), ?_⟩
  refine ⟨_, rfl, _, rfl, a, _, rfl, ha, fun c hc => ?_⟩
  obtain ⟨ms, e⟩ := cutI ns none (some 63)
  rw [e]
  refine ⟨c, _, rfl, .inl (SqL.of upd_same), fun l hl => ⟨small_tup (by show (3 : Nat) ≤ 1000; decide), fun p hp => ?_⟩⟩
  have k1 : Kp T No H (upd H c (.lst (ms.map V.int))) := .new hc
  have k2 := k1.tr (.new (o := .lst (ms.map V.int)) hl)
  have k3 : Kp T No _ _ := .new (o := .lst [.ref l, .int 0, .int 0]) hp
  exact q _ p l (upd_none (upd_none hp)) (upd_none hl) (k2.tr k3) ⟨0, 0, ms, upd_same, k3.lst upd_same id, Int.le_refl 0, Int.le_refl _, Int.le_refl 0⟩
def spDraw (T : List NTab) : Sp := fun vs H Q _ => ∃ (pen l : Addr) (many : Int) (b : Nat), vs = [.ref pen, .int many] ∧ PenAt H pen l b ∧ 1 ≤ many ∧ many ≤ 1000000 ∧ b ≤ 1000000000 ∧ ∀ (r : Int) H', 0 ≤ r → r < many → Kp T (On pen) H H' → PenAt H' pen l (b + 1) → Q (.int r) H'
theorem ok_draw (X : Tx w K mg) : Hd P w K mg base 1 (He.ga K "_law_draw") (spDraw T) := by
  refine mk_hd X.F_law_draw sc_law_draw (fun _ _ _ _ ⟨_, _, _, _, e, _⟩ => by rw [e]; rfl) (fun cdv A outer s H vs Q E hr h => ?_)
  obtain ⟨pen, l, many, b, rfl, ⟨at_, rest, ns, hp, hl, ha0, hab, hr0⟩, hm1, hm2, hb, q⟩ := h
  have nd := sc_law_draw.nd
  have pl : l ≠ pen := fun z => by
    rw [z, hp] at hl
    have e := HO.lst.inj (Option.some.inj hl)
    cases ns with
    | nil => cases e
    | cons n ns => exact nomatch (List.cons.inj e).1
  have kp : ∀ xs, Kp T (On pen) H (upd H pen (.lst xs)) := fun xs => .put hp True.intro
  have hl1 : ∀ xs, (upd H pen (.lst xs)) l = some (.lst (ns.map V.int)) := fun xs => (upd_ne pl).trans hl
  have num : ∀ r : Int, 0 ≤ r → r < many → Q (.int r) (upd H pen (.lst [.ref l, .int (at_ + 1), .int rest])) := fun r r0 r1 =>
    q r _ r0 r1 (kp _) ⟨at_ + 1, rest, ns, upd_same, hl1 _, by omega, by omega, hr0⟩
  have tail2 : ∃ t, PSs (cxOf CX0 P w K mg base ["_law_pen_here", "_law_many", "_law_found", "_law_at_here", "_law_cell", "_law_number"] "_law_draw" (defScope s_law_draw) (He.ga K "_law_draw") cdv A outer s H E).nox ((defBody s_law_draw).drop 6) t ∧
      ∀ cell : Int, t { nx := fun _ H' => Q .non H', rt := Q } [some (.ref pen), some (.int many), none, some (.int at_), some (.int cell), none] (upd H pen (.lst [.ref l, .int (at_ + 1), .int rest])) := by
    refine ⟨_, pss_cons (ps_set (i := 5) nd rfl (.inl rfl) (pe_op op_mod (pe_op op_mul (pe_op op_add (pe_op op_mod (pv 4) pe_int) pe_int) (pe_op op_add (pe_op op_add (pe_op op_mul (pv 3) (pv 3)) (pe_op op_mul pe_int (pv 3))) pe_int)) pe_int))
      (pss_cons (ps_set (i := 5) nd rfl (.inl rfl) (pe_op op_mod (pe_op op_mul (pe_op op_mod (pe_op op_add (pe_op op_pow (pv 5) pe_int) (pe_op op_mul pe_int (pv 3))) pe_int) pe_int) pe_int))
      (pss_cons (ps_if (pt_cmpR op_gt (pv 1) (pe_op op_pow pe_int pe_int) (nomark _)) (pss_one ps_never) pss_nil)
      (pss_one (ps_ret (pe_op op_mod (pe_op op_fdiv (pv 5) pe_int) (pv 1)))))), fun cell => ?_⟩
    have c0 := Int.emod_nonneg cell (show (2147483629 : Int) ≠ 0 by decide)
    have c1 := Int.emod_lt_of_pos cell (show (0 : Int) < 2147483629 by decide)
    refine ⟨_, rfl, _, _, rfl, rfl, (by show (0 : Int) < 2147483629; decide), _, _, rfl, rfl, ?_⟩
    refine ⟨_, rfl, _, rfl, _, _, rfl, rfl, .inl ⟨by omega, by omega⟩, _, rfl, _, _, rfl, rfl, .inl ⟨by decide, by decide⟩, _, _, rfl, rfl, _, _, rfl, rfl, ?_⟩
    refine ⟨_, _, rfl, rfl, .inl ⟨by omega, by omega⟩, _, _, rfl, rfl, (by show (0 : Int) < 2147483647; decide), ?_⟩
    generalize (cell % 2147483629 + 11) * (at_ * at_ + 5 * at_ + 3) = x
    have x0 := Int.emod_nonneg x (show (2147483647 : Int) ≠ 0 by decide)
    have x1 := Int.emod_lt_of_pos x (show (0 : Int) < 2147483647 by decide)
    generalize x % 2147483647 = y at x0 x1
    refine ⟨_, rfl, _, _, rfl, rfl, ⟨by decide, by decide, by omega⟩, ?_⟩
    refine ⟨_, rfl, _, _, rfl, rfl, .inl ⟨by decide, by decide⟩, _, _, rfl, rfl, _, _, rfl, rfl, (by show (0 : Int) < 2147483587; decide), ?_⟩
    refine ⟨_, _, rfl, rfl, .inr ⟨by decide, by decide⟩, _, _, rfl, rfl, (by show (0 : Int) < 2147483399; decide), ?_⟩
    generalize (y ^ (3 : Int).toNat + 69621 * at_) % 2147483587 * 40692 = z
    have z0 := Int.emod_nonneg z (show (2147483399 : Int) ≠ 0 by decide)
    generalize z % 2147483399 = v at z0
    refine ⟨_, rfl, _, _, rfl, rfl, ⟨by decide, by decide, by decide⟩, _, _, rfl, rfl, _, rfl, iteD (fun g => ?_) fun _ => ?_⟩
    · have e : ((10 : Int) ^ (6 : Int).toNat) = 1000000 := by decide
      rw [e] at g
      omega
    · refine ⟨_, rfl, _, _, rfl, rfl, ⟨by decide, by decide⟩, _, rfl, _, _, rfl, rfl, (by show 0 < many; omega), ?_⟩
      exact num _ (Int.emod_nonneg _ (by omega)) (Int.emod_lt_of_pos _ (by omega))
  obtain ⟨t2, p2, h2⟩ := tail2
  have tail : ∃ t, PSs (cxOf CX0 P w K mg base ["_law_pen_here", "_law_many", "_law_found", "_law_at_here", "_law_cell", "_law_number"] "_law_draw" (defScope s_law_draw) (He.ga K "_law_draw") cdv A outer s H E).nox ((defBody s_law_draw).drop 5) t ∧
      ∀ cell : Int, t { nx := fun _ H' => Q .non H', rt := Q } [some (.ref pen), some (.int many), none, some (.int at_), some (.int cell), none] (upd H pen (.lst [.ref l, .int (at_ + 1), .int rest])) := by
    refine ⟨_, pss_cons (ps_if (PW.pt (pw_and (pt_cmpR op_lt (pv 3) (pe_callB call_len_seq (by rfl) X.f_len bb_len (pa_cons (pe_ix ix_list (pv 0) pe_int (fun _ _ => rfl)) pa_nil)) (nomark _)) (pw_and1 (pt_cmpR op_ge (pv 4) (pe_op op_pow pe_int pe_int) (nomark _)))))
        (pss_cons (ps_asg (pe_op op_fdiv (pv 4) (pv 1)) (pg_sub (pv 0) pe_int set_list)) (pss_one (ps_ret (pe_op op_mod (pv 4) (pv 1))))) pss_nil) p2, fun cell => ?_⟩
    refine ⟨_, rfl, _, rfl, _, _, _, _, rfl, rfl, SqL.of upd_same, atI_nat (j := 0) rfl, _, _, rfl, .inl (SqL.of (hl1 _)), _, _, rfl, rfl, _, rfl, iteD (fun h1 => ?_) fun h1 => h2 cell⟩
    refine ⟨_, rfl, _, _, rfl, rfl, ⟨by decide, by decide, by decide⟩, _, _, rfl, rfl, _, rfl, iteD (fun h3 => ?_) fun h3 => h2 cell⟩
    refine ⟨_, rfl, _, rfl, _, _, rfl, rfl, ⟨by omega, by omega⟩, _, rfl, _, _, _, 2, rfl, rfl, upd_same, rfl, ?_⟩
    refine ⟨_, rfl, _, rfl, _, _, rfl, rfl, (by show 0 < many; omega), ?_⟩
    have c0 : 0 ≤ cell := by
      have e : ((10 : Int) ^ (18 : Int).toNat) = 1000000000000000000 := by decide
      rw [e] at h3
      omega
    have k2 := Kp.put (T := T) (o' := .lst [.ref l, .int (at_ + 1), .int (cell / many)]) (upd_same : (upd H pen (.lst [.ref l, .int (at_ + 1), .int rest])) pen = some (.lst [.ref l, .int (at_ + 1), .int rest])) True.intro
    exact q _ _ (Int.emod_nonneg _ (by omega)) (Int.emod_lt_of_pos _ (by omega)) ((kp _).tr k2) ⟨at_ + 1, cell / many, ns, upd_same, (upd_ne pl).trans (hl1 _), by omega, by omega, Int.ediv_nonneg c0 (by omega)⟩
  obtain ⟨tt, pt, ht⟩ := tail
  refine ⟨_, pss_cons (ps_if (pt_cmpR op_gt (pe_ix ix_list (pv 0) pe_int (fun _ _ => rfl)) pe_int (nomark _))
      (pss_cons (ps_set (i := 2) nd rfl (.inl rfl) (pe_op op_mod (pe_ix ix_list (pv 0) pe_int (fun _ _ => rfl)) (pv 1)))
      (pss_cons (ps_asg (pe_op op_fdiv (pe_ix ix_list (pv 0) pe_int (fun _ _ => rfl)) (pv 1)) (pg_sub (pv 0) pe_int set_list)) (pss_one (ps_ret (pv 2))))) pss_nil)
    (pss_cons (ps_set (i := 3) nd rfl (.inl rfl) (pe_ix ix_list (pv 0) pe_int (fun _ _ => rfl)))
    (pss_cons (ps_asg (pe_op op_add (pv 3) pe_int) (pg_sub (pv 0) pe_int set_list))
    (pss_cons (ps_set (i := 4) nd rfl (.inl rfl) pe_int)
    (pss_cons (ps_if (pt_cmpR op_gt (pe_callB call_len_seq (by rfl) X.f_len bb_len (pa_cons (pe_ix ix_list (pv 0) pe_int (fun _ _ => rfl)) pa_nil)) pe_int (nomark _))
      (pss_one (ps_set (i := 4) nd rfl (.inl rfl) (pe_ix ix_list (pe_ix ix_list (pv 0) pe_int (fun _ _ => rfl)) (pe_op op_mod (pv 3) (pe_callB call_len_seq (by rfl) X.f_len bb_len (pa_cons (pe_ix ix_list (pv 0) pe_int (fun _ _ => rfl)) pa_nil))) (fun _ _ => rfl)))) pss_nil) pt)))), ?_⟩
  refine ⟨_, rfl, _, _, _, _, rfl, rfl, SqL.of hp, atI_nat (j := 2) rfl, _, _, rfl, rfl, _, rfl, iteD (fun h0 => ?_) fun h0 => ?_⟩
  · refine ⟨_, rfl, _, _, _, _, rfl, rfl, SqL.of hp, atI_nat (j := 2) rfl, _, rfl, _, _, rfl, rfl, (by show 0 < many; omega), ?_⟩
    refine ⟨_, rfl, _, _, _, _, rfl, rfl, SqL.of hp, atI_nat (j := 2) rfl, _, rfl, _, _, rfl, rfl, ⟨by omega, by omega⟩, _, rfl, _, _, _, 2, rfl, rfl, hp, rfl, ?_⟩
    exact ⟨_, rfl, q _ _ (Int.emod_nonneg _ (by omega)) (Int.emod_lt_of_pos _ (by omega)) (kp _) ⟨at_, rest / many, ns, upd_same, hl1 _, ha0, by omega, Int.ediv_nonneg (by omega) (by omega)⟩⟩
  · refine ⟨_, rfl, _, _, _, _, rfl, rfl, SqL.of hp, atI_nat (j := 1) rfl, ?_⟩
    refine ⟨_, rfl, _, _, rfl, rfl, _, rfl, _, _, _, 1, rfl, rfl, hp, rfl, ?_⟩
    refine ⟨_, rfl, _, _, _, _, rfl, rfl, SqL.of upd_same, atI_nat (j := 0) rfl, _, _, rfl, .inl (SqL.of (hl1 _)), _, _, rfl, rfl, _, rfl, iteD (fun h1 => ?_) fun h1 => ht 7⟩
    have hlen : (ns.map V.int).length = ns.length := List.length_map ..
    rw [hlen] at h1
    have m0 := Int.emod_nonneg at_ (show ((ns.map V.int).length : Int) ≠ 0 by omega)
    have m1 := Int.emod_lt_of_pos at_ (show (0 : Int) < ((ns.map V.int).length : Int) by omega)
    have hi : (at_ % ((ns.map V.int).length : Int)).toNat < ns.length := by omega
    refine ⟨_, rfl, _, _, _, _, rfl, rfl, SqL.of upd_same, atI_nat (j := 0) rfl, _, rfl, _, rfl, _, _, _, _, rfl, rfl, SqL.of upd_same, atI_nat (j := 0) rfl, _, _, rfl, .inl (SqL.of (hl1 _)), _, _, rfl, rfl, (by show (0 : Int) < ((ns.map V.int).length : Int); omega), ?_⟩
    exact ⟨_, _, _, _, rfl, rfl, SqL.of (hl1 _), atI_int m0 (map_at (List.getElem?_eq_getElem hi)), ht _⟩
end
end K9

set_option maxHeartbeats 4000000
namespace K9
open PySem PySem.Spec PyProof.Rows L2 NdefX LamX
def begs : List Str := ["", "", "a", "zz", "tileof", "p", "b"]
theorem begs_ok : ∀ x ∈ begs, x.length ≤ 6 ∧ ∀ c ∈ x.cps.toList, 97 ≤ c ∧ c ≤ 122 := by decide +kernel
abbrev abc : Str := "abcdefghijklmnopqrstuvwxyz"
theorem abc_at {i : Int} (h0 : 0 ≤ i) (h1 : i < 26) : atI abc.cps.toList i = some (97 + i.toNat) := by
  refine atI_int h0 ?_
  rw [letters, List.getElem?_map, List.getElem?_range (by omega)]
  exact congrArg some (by show i.toNat + 97 = 97 + i.toNat; omega)
/-- a drawn name -/
def nameOf (x : Str) (code : Int) : Str := x ++ ⟨#[97 + (code / 26).toNat]⟩ ++ ⟨#[97 + (code % 26).toNat]⟩
theorem nameOf_cps (x : Str) (code : Int) : (nameOf x code).cps.toList = x.cps.toList ++ [97 + (code / 26).toNat, 97 + (code % 26).toNat] := by
  unfold nameOf
  show ((x.cps ++ #[97 + (code / 26).toNat]) ++ #[97 + (code % 26).toNat]).toList = _
  simp
theorem nameOf_ok {x : Str} (hx : x ∈ begs) {code : Int} (h0 : 0 ≤ code) (h1 : code < 676) : NameOk (nameOf x code) := by
  obtain ⟨h2, h3⟩ := begs_ok x hx
  have hl : (nameOf x code).length = x.length + 2 := by
    have e := congrArg List.length (nameOf_cps x code)
    rw [Array.length_toList, List.length_append, Array.length_toList] at e
    exact e
  refine ⟨by omega, by omega, fun c hc => ?_⟩
  rw [nameOf_cps] at hc
  rcases List.mem_append.mp hc with z | z
  · exact h3 c z
  · have d0 : 0 ≤ code / 26 := Int.ediv_nonneg h0 (by decide)
    rcases List.mem_cons.mp z with z | z
    · omega
    · rw [List.mem_singleton.mp z]
      omega
theorem nameOf_inj {x y : Str} {c d : Int} (h0 : 0 ≤ c) (h1 : 0 ≤ d) (e : nameOf x c = nameOf y d) : c = d := by
  have e1 := congrArg (fun z : Str => z.cps.toList) e
  simp only [nameOf_cps] at e1
  have e2 := congrArg List.reverse e1
  rw [List.reverse_append, List.reverse_append] at e2
  simp only [List.reverse_cons, List.reverse_nil, List.nil_append, List.cons_append, List.cons.injEq] at e2
  omega
section
variable {P : Program} {w : World} {K : PySem.W.Frag} {mg : Str → Option Value} {base : Heap} {T : List NTab}
def spNames (T : List NTab) : Sp := fun vs H Q _ => ∃ (pen pl : Addr) (many b : Nat), vs = [.ref pen, .int many] ∧ PenAt H pen pl b ∧ many ≤ 11 ∧ b ≤ 900000000 ∧
  ∀ (H' : Hp) (l : Addr) (nm : List Str), Kp T (On pen) H H' → PenAt H' pen pl (b + 3 + many) → l ≠ pen → H' l = some (.lst (nm.map V.str)) → nm.length = many → nm.Nodup → (∀ x ∈ nm, NameOk x) → Q (.ref l) H'
theorem ok_names (X : Tx w K mg) : Hd P w K mg base 2 (He.ga K "_law_names") (spNames T) := by
  refine mk_hd X.F_law_names sc_law_names (fun _ _ _ _ ⟨_, _, _, _, e, _⟩ => by rw [e]; rfl) (fun cdv A outer s H vs Q E hr h => ?_)
  obtain ⟨pen, pl, many, b, rfl, hp, hm, hb, q⟩ := h
  have nd := sc_law_names.nd
  have D : Hd P w K mg base 1 (He.ga K "_law_draw") (spDraw T) := ok_draw X
  refine ⟨_, pss_cons (ps_par (i := 2) (j := 3) (by rfl) nd rfl rfl (by decide) rfl rfl (pa_cons pe_str (pa_cons (pe_lst pa_nil) pa_nil)) (by rfl))
    (pss_cons (ps_par (i := 4) (j := 5) (by rfl) nd rfl rfl (by decide) rfl rfl (pa_cons (pe_op op_add (pe_ix ix_list (pe_lst (pa_cons pe_int (pa_cons pe_int (pa_cons pe_int (pa_cons pe_int (pa_cons pe_int (pa_cons pe_int (pa_cons pe_int (pa_cons pe_int pa_nil))))))))) (pe_h D hr X.g_law_draw (pa_cons (pv 0) (pa_cons pe_int pa_nil))) (fun _ _ => rfl)) (pe_op op_mul pe_int (pe_h D hr X.g_law_draw (pa_cons (pv 0) (pa_cons pe_int pa_nil)))))
        (pa_cons (pe_h D hr X.g_law_draw (pa_cons (pv 0) (pa_cons pe_int pa_nil))) pa_nil)) (by rfl))
    (pss_cons (ps_for PassesOwn.never rfl (pi_range1 rfl X.f_range (pa_cons (pv 1) pa_nil)) (pg_name (i := 6) nd rfl (.inl rfl))
      (pss_cons (ps_set (i := 7) nd rfl (.inl rfl) (pe_ix ix_list (pe_lst (pa_cons pe_str (pa_cons pe_str (pa_cons pe_str (pa_cons pe_str (pa_cons pe_str (pa_cons pe_str (pa_cons pe_str pa_nil)))))))) (pe_h D hr X.g_law_draw (pa_cons (pv 0) (pa_cons pe_int pa_nil))) (fun _ _ => rfl)))
      (pss_cons (ps_expr (pe_bm PySem.F.plainAttrs_list PySem.F.slot_list_append PySem.F.type_list_append mt_append (pv 3) (pa_cons (pe_op op_add_str (pe_op op_add_str (pv 7) (pe_ix ix_str (pv 2) (pe_op op_fdiv (pv 5) pe_int) (fun _ _ => rfl))) (pe_ix ix_str (pv 2) (pe_op op_mod (pv 5) pe_int) (fun _ _ => rfl))) pa_nil)))
      (pss_one (ps_set (i := 5) nd rfl (.inl rfl) (pe_op op_mod (pe_op op_add (pv 5) (pv 4)) pe_int))))))
    (pss_one (ps_ret (pv 3))))), ?_⟩
  refine ⟨Nat.zero_le _, fun sm hsm => ⟨_, _, rfl, ?_⟩⟩
  have k1 : Kp T No H (upd H sm (.lst [])) := .new hsm
  have hne : sm ≠ pen := hp.there hsm
  refine ⟨small_tup (by show (8 : Nat) ≤ 1000; decide), fun sl hsl => ?_⟩
  have k2 := k1.tr (.new (o := .lst [.int 1, .int 3, .int 5, .int 7, .int 9, .int 11, .int 15, .int 17]) hsl)
  have hp2 := hp.kn k2
  have slne := hp.there (upd_none hsl)
  refine ⟨_, rfl, pen, pl, 8, b, rfl, hp2, by decide, by decide, by omega, fun r3 H3 r30 r31 k3 hp3 => ?_⟩
  have hsl3 := k3.lst upd_same slne
  have hs : ∃ s0 : Int, s0 ∈ ([1, 3, 5, 7, 9, 11, 15, 17] : List Int) ∧ atI [V.int 1, V.int 3, V.int 5, V.int 7, V.int 9, V.int 11, V.int 15, V.int 17] r3 = some (.int s0) := by
    have hi : r3.toNat < ([1, 3, 5, 7, 9, 11, 15, 17] : List Int).length := by show r3.toNat < 8; omega
    exact ⟨_, List.getElem_mem hi, atI_int (xs := ([1, 3, 5, 7, 9, 11, 15, 17] : List Int).map V.int) r30 (map_at (List.getElem?_eq_getElem hi))⟩
  obtain ⟨s0, hs0, hat⟩ := hs
  refine ⟨_, _, _, _, rfl, rfl, SqL.of hsl3, hat, ?_⟩
  refine ⟨_, rfl, pen, pl, 13, b + 1, rfl, hp3, by decide, by decide, by omega, fun t4 H4 t40 t41 k4 hp4 => ?_⟩
  refine ⟨_, _, rfl, rfl, .inl ⟨by decide, by decide⟩, _, _, rfl, rfl, ?_⟩
  refine ⟨_, rfl, pen, pl, 676, b + 2, rfl, hp4, by decide, by decide, by omega, fun c0 H5 c00 c01 k5 hp5 => ⟨_, _, rfl, ?_⟩⟩
  have k15 : Kp T (On pen) H H5 := ((k2.any.tr k3).tr k4).tr k5
  have hsm5 : H5 sm = some (.lst []) := by
    have e2 := (Kp.new (T := T) (M := No) (o := .lst [.int 1, .int 3, .int 5, .int 7, .int 9, .int 11, .int 15, .int 17]) hsl).lst upd_same id
    exact k5.lst (k4.lst (k3.lst e2 hne) hne) hne
  obtain ⟨t, rfl⟩ : ∃ t : Nat, t4 = (t : Int) := ⟨t4.toNat, by omega⟩
  have ht : t < 13 := by omega
  have code_ok : ∀ i : Nat, 0 ≤ (c0 + (i : Int) * (s0 + 26 * (t : Int))) % 676 ∧ (c0 + (i : Int) * (s0 + 26 * (t : Int))) % 676 < 676 := fun i => ⟨Int.emod_nonneg _ (by decide), Int.emod_lt_of_pos _ (by decide)⟩
  refine ⟨_, rfl, (many : Int), rfl, by omega, by omega, ?_⟩
  refine for_range (lo := 0) (n := many) (fun i σ H' => ∃ (kv bv : Option V) (nm : List Str), σ = [some (.ref pen), some (.int many), some (.str abc), some (.ref sm), some (.int (s0 + 26 * (t : Int))), some (.int ((c0 + (i : Int) * (s0 + 26 * (t : Int))) % 676)), kv, bv] ∧ Kp T (On pen) H H' ∧ PenAt H' pen pl (b + 3 + i) ∧ H' sm = some (.lst (nm.map V.str)) ∧ nm.length = i ∧
    ∀ (j : Nat) (x : Str), nm[j]? = some x → ∃ y, y ∈ begs ∧ x = nameOf y ((c0 + (j : Int) * (s0 + 26 * (t : Int))) % 676)) ?_ (fun i σ H6 hi hv => ?_) fun σ H6 hv => ?_
  · refine ⟨none, none, [], ?_, k15, hp5, hsm5, rfl, fun j x e => by simp at e⟩
    have e : (c0 + ((0 : Nat) : Int) * (s0 + 26 * (t : Int))) % 676 = c0 := by
      rw [show ((0 : Nat) : Int) = 0 from rfl, Int.zero_mul, Int.add_zero]
      exact Int.emod_eq_of_lt c00 c01
    rw [e]
    rfl
  · obtain ⟨kv, bv, nm, rfl, k6, hp6, hsm6, hl6, hnm⟩ := hv
    refine ⟨small_tup (by show (7 : Nat) ≤ 1000; decide), fun sl hsl => ?_⟩
    have k7 : Kp T No H6 (upd H6 sl (.lst (begs.map V.str))) := .new hsl
    have hp7 := hp6.kn k7
    have slne := hp6.there hsl
    refine ⟨_, rfl, pen, pl, 7, b + 3 + i, rfl, hp7, by decide, by decide, by omega, fun r8 H8 r80 r81 k8 hp8 => ?_⟩
    have hi8 : r8.toNat < begs.length := by show r8.toNat < 7; omega
    have hsl8 := k8.lst upd_same slne
    have hsm8 := k8.lst (k7.lst hsm6 id) hne
    refine ⟨_, _, _, .str begs[r8.toNat], rfl, rfl, SqL.of hsl8, atI_int (xs := begs.map V.str) r80 (map_at (List.getElem?_eq_getElem hi8)), ?_⟩
    have hbm : begs[r8.toNat] ∈ begs := List.getElem_mem hi8
    generalize begs[r8.toNat] = y at hbm
    obtain ⟨g0, g1⟩ := code_ok i
    generalize hc : (c0 + (i : Int) * (s0 + 26 * (t : Int))) % 676 = code at g0 g1
    have yl := (begs_ok y hbm).1
    have d0 : 0 ≤ code / 26 := Int.ediv_nonneg g0 (by decide)
    refine ⟨_, rfl, .inl ⟨rfl, _, SqL.of hsm8⟩, ?_⟩
    refine ⟨_, rfl, _, rfl, _, rfl, _, _, rfl, rfl, ⟨by decide, by decide⟩, abc, _, _, rfl, rfl, small_tup (by decide), abc_at d0 (by omega), ?_⟩
    refine ⟨_, _, rfl, rfl, small_tup (by show y.length + 1 ≤ 1000; omega), ?_⟩
    refine ⟨_, rfl, _, rfl, _, _, rfl, rfl, (by show (0 : Int) < 26; decide), abc, _, _, rfl, rfl, small_tup (by decide), abc_at (Int.emod_nonneg _ (by decide)) (Int.emod_lt_of_pos _ (by decide)), ?_⟩
    have yl1 : (y ++ (⟨#[97 + (code / 26).toNat]⟩ : Str)).length = y.length + 1 := by
      show (y.cps ++ #[97 + (code / 26).toNat]).size = y.cps.size + 1
      simp
    refine ⟨_, _, rfl, rfl, small_tup (by rw [yl1]; show y.length + 1 + 1 ≤ 1000; omega), ?_⟩
    refine ⟨sm, _, _, rfl, rfl, hsm8, line_big (by rw [List.length_map]; omega), ?_⟩
    have k9 := Kp.put (T := T) (o' := .lst (nm.map V.str ++ [.str (nameOf y code)])) hsm8 True.intro
    have k19 : Kp T (On pen) H (upd H8 sm (.lst (nm.map V.str ++ [.str (nameOf y code)]))) := ((k6.trN k7).tr k8).trans k9 fun c hc => .inr (by rw [hc]; exact hsm)
    have hp9 := hp8.off (o := .lst (nm.map V.str ++ [.str (nameOf y code)])) hne (hp.there2 hsm)
    refine ⟨_, rfl, _, rfl, _, _, rfl, rfl, _, _, rfl, rfl, (by show (0 : Int) < 676; decide), ?_⟩
    have ec : (code + (s0 + 26 * (t : Int))) % 676 = (c0 + ((i + 1 : Nat) : Int) * (s0 + 26 * (t : Int))) % 676 := by
      rw [← hc, show ((i + 1 : Nat) : Int) = (i : Int) + 1 by omega, Int.add_mul, Int.one_mul, Int.emod_add_emod, Int.add_assoc]
    refine ⟨_, _, nm ++ [nameOf y code], (by rw [← ec]; rfl), k19, hp9, by rw [List.map_append]; exact upd_same, by rw [List.length_append, hl6]; rfl, fun j x ej => ?_⟩
    by_cases hj : j < nm.length
    · rw [List.getElem?_append_left hj] at ej
      exact hnm j x ej
    · rw [List.getElem?_append_right (by omega)] at ej
      have e0 : j - nm.length = 0 := by
        have := (List.getElem?_eq_some_iff.mp ej).1
        simp at this
        omega
      rw [e0] at ej
      have ji : j = i := by omega
      exact ⟨y, hbm, by rw [← Option.some.inj ej, ji, hc]⟩
  · obtain ⟨kv, bv, nm, rfl, k6, hp6, hsm6, hl6, hnm⟩ := hv
    refine ⟨_, rfl, q H6 sm nm k6 hp6 hne hsm6 hl6 ?_ fun x hx => ?_⟩
    · refine List.pairwise_iff_getElem.mpr fun i j hi hj hij e => ?_
      obtain ⟨y1, _, e1⟩ := hnm i _ (List.getElem?_eq_getElem hi)
      obtain ⟨y2, _, e2⟩ := hnm j _ (List.getElem?_eq_getElem hj)
      rw [e1, e2] at e
      exact codes_unlike hs0 ht c0 hij (by omega) (nameOf_inj (code_ok i).1 (code_ok j).1 e)
    · obtain ⟨j, e⟩ := List.getElem?_of_mem hx
      obtain ⟨y, hy, rfl⟩ := hnm j x e
      exact nameOf_ok hy (code_ok j).1 (code_ok j).2
end
end K9

set_option maxHeartbeats 4000000
namespace K9
open PySem PySem.Spec PyProof.Rows L2 NdefX LamX
theorem All2.snoc {α : Type} {F : Addr → α → Prop} {as : List Addr} {xs : List α} {a : Addr} {x : α} (h : All2 F as xs) (f : F a x) : All2 F (as ++ [a]) (xs ++ [x]) := by
  refine ⟨by rw [List.length_append, List.length_append, h.len]; rfl, fun i b y e1 e2 => ?_⟩
  by_cases hi : i < as.length
  · rw [List.getElem?_append_left hi] at e1
    rw [List.getElem?_append_left (by rw [← h.len]; exact hi)] at e2
    exact h.at_ i b y e1 e2
  · have l := h.len
    rw [List.getElem?_append_right (by omega)] at e1 e2
    have e0 : i - as.length = 0 := by
      have := (List.getElem?_eq_some_iff.mp e1).1
      simp at this
      omega
    rw [e0] at e1
    rw [← l, e0] at e2
    rw [← Option.some.inj e1, ← Option.some.inj e2]
    exact f
theorem pickI {l : List Int} {r : Int} (h0 : 0 ≤ r) (h1 : r < (l.length : Int)) : ∃ v ∈ l, atI (l.map V.int) r = some (.int v) := by
  have hi : r.toNat < l.length := by omega
  exact ⟨_, List.getElem_mem hi, atI_int h0 (map_at (List.getElem?_eq_getElem hi))⟩
section
variable {P : Program} {w : World} {K : PySem.W.Frag} {mg : Str → Option Value} {base : Heap} {T : List NTab}
def spLPlanes (T : List NTab) : Sp := fun vs H Q _ => ∃ (pen pl : Addr) (np wd ht b : Nat) (deep : Int), vs = [.ref pen, .int np, .int wd, .int ht, .int deep] ∧ PenAt H pen pl b ∧ np ≤ 4 ∧ wd ≤ 5 ∧ ht ≤ 5 ∧ 1 ≤ deep ∧ deep ≤ 65535 ∧ b ≤ 900000000 ∧
  ∀ (H' : Hp) (t : Addr) (ps : List (List (List Int))), Kp T (On pen) H H' → PenAt H' pen pl (b + 300) → PlanesAt H' t ps → ps.length = np → (∀ p ∈ ps, p.length = ht ∧ ∀ row ∈ p, row.length = wd ∧ ∀ x ∈ row, 0 ≤ x ∧ x ≤ deep) → Q (.ref t) H'
theorem ok_law_planes (X : Tx w K mg) : Hd P w K mg base 2 (He.ga K "_law_planes") (spLPlanes T) := by
  refine mk_hd X.F_law_planes sc_law_planes (fun _ _ _ _ ⟨_, _, _, _, _, _, _, e, _⟩ => by rw [e]; rfl) (fun cdv A outer s H vs Q E hr h => ?_)
  obtain ⟨pen, pl, np, wd, ht, b, deep, rfl, hp, hnp, hwd, hht, hd0, hd1, hb, q⟩ := h
  have nd := sc_law_planes.nd
  have D : Hd P w K mg base 1 (He.ga K "_law_draw") (spDraw T) := ok_draw X
  refine ⟨_, pss_cons (ps_set (i := 5) nd rfl (.inl rfl) (pe_lst pa_nil))
    (pss_cons (ps_for PassesOwn.never rfl (pi_range1 rfl X.f_range (pa_cons (pv 1) pa_nil)) (pg_name (i := 6) nd rfl (.inl rfl))
      (pss_cons (ps_set (i := 7) nd rfl (.inl rfl) (pe_lst pa_nil))
      (pss_cons (ps_for PassesOwn.never rfl (pi_range1 rfl X.f_range (pa_cons (pv 3) pa_nil)) (pg_name (i := 8) nd rfl (.inl rfl))
        (pss_cons (ps_set (i := 9) nd rfl (.inl rfl) (pe_lst pa_nil))
        (pss_cons (ps_for PassesOwn.never rfl (pi_range1 rfl X.f_range (pa_cons (pv 2) pa_nil)) (pg_name (i := 10) nd rfl (.inl rfl))
          (pss_one (ps_expr (pe_bm PySem.F.plainAttrs_list PySem.F.slot_list_append PySem.F.type_list_append mt_append (pv 9) (pa_cons (pe_ix ix_list (pe_lst (pa_cons pe_int (pa_cons (pv 4) (pa_cons (pe_h D hr X.g_law_draw (pa_cons (pv 0) (pa_cons (pe_op op_add (pv 4) pe_int) pa_nil))) (pa_cons (pe_h D hr X.g_law_draw (pa_cons (pv 0) (pa_cons (pe_op op_add (pv 4) pe_int) pa_nil))) pa_nil))))) (pe_h D hr X.g_law_draw (pa_cons (pv 0) (pa_cons pe_int pa_nil))) (fun _ _ => rfl)) pa_nil)))))
        (pss_one (ps_expr (pe_bm PySem.F.plainAttrs_list PySem.F.slot_list_append PySem.F.type_list_append mt_append (pv 7) (pa_cons (pe_tuple X.f_tuple (pv 9)) pa_nil)))))))
      (pss_one (ps_expr (pe_bm PySem.F.plainAttrs_list PySem.F.slot_list_append PySem.F.type_list_append mt_append (pv 5) (pa_cons (pe_tuple X.f_tuple (pv 7)) pa_nil)))))))
    (pss_one (ps_ret (pe_tuple X.f_tuple (pv 5))))), ?_⟩
  refine ⟨Nat.zero_le _, fun fd hfd => ?_⟩
  have kf : Kp T No H (upd H fd (.lst [])) := .new hfd
  have fdp := hp.there hfd
  have fdl := hp.there2 hfd
  refine ⟨_, rfl, (np : Int), rfl, by omega, by omega, ?_⟩
  refine for_range (lo := 0) (n := np) (fun k σ H' => ∃ (kv rv jv wv iv : Option V) (fs : List Addr) (ps : List (List (List Int))), σ = [some (.ref pen), some (.int np), some (.int wd), some (.int ht), some (.int deep), some (.ref fd), kv, rv, jv, wv, iv] ∧ Kp T (On pen) H H' ∧ PenAt H' pen pl (b + 75 * k) ∧ H' fd = some (.lst (fs.map V.ref)) ∧ All2 (PlaneAt H') fs ps ∧ ps.length = k ∧
    (∀ p ∈ ps, p.length = ht ∧ ∀ row ∈ p, row.length = wd ∧ ∀ x ∈ row, 0 ≤ x ∧ x ≤ deep)) ?_ (fun k σ H1 hk hv => ?_) fun σ H1 hv => ?_
  · exact ⟨none, none, none, none, none, [], [], rfl, kf.any, hp.kn kf, upd_same, ⟨rfl, fun i a x e => by simp at e⟩, rfl, fun p hp => nomatch hp⟩
  · obtain ⟨kv, rv, jv, wv, iv, fs, ps, rfl, k1, hp1, hf1, hfs, hpl, hok⟩ := hv
    refine ⟨Nat.zero_le _, fun rs hrs => ?_⟩
    have kr : Kp T No H1 (upd H1 rs (.lst [])) := .new hrs
    have rsp := hp1.there hrs
    have rsl := hp1.there2 hrs
    have rsf : fd ≠ rs := ne_of_none hf1 hrs
    refine ⟨_, rfl, (ht : Int), rfl, by omega, by omega, ?_⟩
    refine for_range (lo := 0) (n := ht) (fun j σ H' => ∃ (jv wv iv : Option V) (rr : List Addr) (pp : List (List Int)), σ = [some (.ref pen), some (.int np), some (.int wd), some (.int ht), some (.int deep), some (.ref fd), some (.int (0 + (k : Int))), some (.ref rs), jv, wv, iv] ∧ Kp T (fun c => c = pen ∨ c = rs) H1 H' ∧ PenAt H' pen pl (b + 75 * k + 15 * j) ∧ H' rs = some (.lst (rr.map V.ref)) ∧ All2 (RowAt H') rr pp ∧ pp.length = j ∧
      (∀ row ∈ pp, row.length = wd ∧ ∀ x ∈ row, 0 ≤ x ∧ x ≤ deep)) ?_ (fun j σ H2 hj hv => ?_) fun σ H2 hv => ?_
    · exact ⟨jv, wv, iv, [], [], rfl, kr.any, hp1.kn kr, upd_same, ⟨rfl, fun i a x e => by simp at e⟩, rfl, fun p hp => nomatch hp⟩
    · obtain ⟨jv, wv, iv, rr, pp, rfl, k2, hp2, hr2, hrr, hppl, hrok⟩ := hv
      refine ⟨Nat.zero_le _, fun rw hrw => ?_⟩
      have kw : Kp T No H2 (upd H2 rw (.lst [])) := .new hrw
      have rwp := hp2.there hrw
      have rwl := hp2.there2 hrw
      have rwr : rs ≠ rw := ne_of_none hr2 hrw
      refine ⟨_, rfl, (wd : Int), rfl, by omega, by omega, ?_⟩
      refine for_range (lo := 0) (n := wd) (fun i σ H' => ∃ (iv : Option V) (xs : List Int), σ = [some (.ref pen), some (.int np), some (.int wd), some (.int ht), some (.int deep), some (.ref fd), some (.int (0 + (k : Int))), some (.ref rs), some (.int (0 + (j : Int))), some (.ref rw), iv] ∧ Kp T (fun c => c = pen ∨ c = rw) H2 H' ∧ PenAt H' pen pl (b + 75 * k + 15 * j + 3 * i) ∧ H' rw = some (.lst (xs.map V.int)) ∧ xs.length = i ∧
        (∀ x ∈ xs, 0 ≤ x ∧ x ≤ deep)) ?_ (fun i σ H3 hi hv => ?_) fun σ H3 hv => ?_
      · exact ⟨iv, [], rfl, kw.any, hp2.kn kw, upd_same, rfl, fun p hp => nomatch hp⟩
      · obtain ⟨iv, xs, rfl, k3, hp3, hw3, hxl, hxok⟩ := hv
        have ob : b + 75 * k + 15 * j + 3 * i ≤ 999999000 := by omega
        refine ⟨_, rfl, .inl ⟨rfl, _, SqL.of hw3⟩, ?_⟩
        refine ⟨_, rfl, _, rfl, _, rfl, _, _, rfl, rfl, pen, pl, deep + 1, _, rfl, hp3, by omega, by omega, by omega, fun r4 H4 r40 r41 k4 hp4 => ?_⟩
        refine ⟨_, rfl, _, rfl, _, _, rfl, rfl, pen, pl, deep + 1, _, rfl, hp4, by omega, by omega, by omega, fun r5 H5 r50 r51 k5 hp5 => ?_⟩
        refine ⟨small_tup (by show (4 : Nat) ≤ 1000; decide), fun sl hsl => ?_⟩
        have ks : Kp T No H5 (upd H5 sl (.lst (([0, deep, r4, r5] : List Int).map V.int))) := .new hsl
        have slp := hp5.there hsl
        refine ⟨_, rfl, pen, pl, 4, _, rfl, hp5.kn ks, by decide, by decide, by omega, fun r6 H6 r60 r61 k6 hp6 => ?_⟩
        obtain ⟨v, hv, hat⟩ := pickI (l := [0, deep, r4, r5]) r60 r61
        have v01 : 0 ≤ v ∧ v ≤ deep := by
          simp only [List.mem_cons, List.not_mem_nil, or_false] at hv
          omega
        refine ⟨_, _, _, _, rfl, rfl, SqL.of (k6.lst upd_same slp), hat, ?_⟩
        have k36 : Kp T (On pen) H3 H6 := ((k4.tr k5).trN ks).tr k6
        have hw6 := k36.lst hw3 rwp
        refine ⟨rw, _, _, rfl, rfl, hw6, line_big (by rw [List.length_map]; omega), ?_⟩
        have k7 := Kp.put (T := T) (o' := .lst (xs.map V.int ++ [.int v])) hw6 True.intro
        refine ⟨_, xs ++ [v], rfl, (k3.trans k36 fun c hc => .inl (.inl hc)).trans k7 fun c hc => .inl (.inr hc), (hp6.off rwp rwl).le (by omega), by rw [List.map_append]; exact upd_same, by rw [List.length_append, hxl]; rfl, fun x hx => ?_⟩
        rcases List.mem_append.mp hx with z | z
        · exact hxok x z
        · rw [List.mem_singleton.mp z]
          exact v01
      · obtain ⟨iv, xs, rfl, k3, hp3, hw3, hxl, hxok⟩ := hv
        have k23 : Kp T (On pen) H2 H3 := Kp.ownM (M := On pen) (p := rw) k3 hrw
        have hr3 := k23.lst hr2 rsp
        refine ⟨_, rfl, .inl ⟨rfl, _, SqL.of hr3⟩, _, rfl, rw, _, rfl, hw3, fun t ht4 => ?_⟩
        have kt := Kp.new (T := T) (M := No) (o := .tup (xs.map V.int)) ht4
        have hr4 := kt.lst hr3 id
        refine ⟨rs, _, _, rfl, rfl, hr4, line_big (by rw [List.length_map, hrr.len]; omega), ?_⟩
        have k5 := Kp.put (T := T) (o' := .lst (rr.map V.ref ++ [.ref t])) hr4 True.intro
        have tk : TupK H2 _ := fun bb ys e => k5.tp bb ys (kt.tp bb ys (k23.tp bb ys e))
        refine ⟨_, _, _, rr ++ [t], pp ++ [xs], rfl, (k2.trans (k23.trN kt) fun c hc => .inl (.inl hc)).trans k5 fun c hc => .inl (.inr hc), ((hp3.kn kt).off rsp rsl).le (by omega), by rw [List.map_append]; exact upd_same, ?_, by rw [List.length_append, hppl]; rfl, fun row hrow => ?_⟩
        · exact (hrr.mono fun a x z => tk _ _ z).snoc (k5.tp _ _ upd_same)
        · rcases List.mem_append.mp hrow with z | z
          · exact hrok row z
          · rw [List.mem_singleton.mp z]
            exact ⟨hxl, hxok⟩
    · obtain ⟨jv, wv, iv, rr, pp, rfl, k2, hp2, hr2, hrr, hppl, hrok⟩ := hv
      have k12 : Kp T (On pen) H1 H2 := Kp.ownM (M := On pen) (p := rs) k2 hrs
      have hf2 := k12.lst hf1 fdp
      refine ⟨_, rfl, .inl ⟨rfl, _, SqL.of hf2⟩, _, rfl, rs, _, rfl, hr2, fun t ht4 => ?_⟩
      have kt := Kp.new (T := T) (M := No) (o := .tup (rr.map V.ref)) ht4
      have hf4 := kt.lst hf2 id
      refine ⟨fd, _, _, rfl, rfl, hf4, line_big (by rw [List.length_map, hfs.len]; omega), ?_⟩
      have k5 := Kp.put (T := T) (o' := .lst (fs.map V.ref ++ [.ref t])) hf4 True.intro
      have tk2 : TupK H2 _ := fun bb ys e => k5.tp bb ys (kt.tp bb ys e)
      have tk : TupK H1 _ := fun bb ys e => tk2 bb ys (k12.tp bb ys e)
      refine ⟨_, _, _, _, _, fs ++ [t], ps ++ [pp], rfl, ((k1.tr k12).trN kt).trans k5 fun c hc => .inr (by rw [hc]; exact hfd), ((hp2.kn kt).off fdp fdl).le (by omega), by rw [List.map_append]; exact upd_same, ?_, by rw [List.length_append, hpl]; rfl, fun p hp => ?_⟩
      · exact (hfs.mono fun a x z => z.keep tk).snoc ⟨rr, k5.tp _ _ upd_same, hrr.mono fun a x z => tk2 _ _ z⟩
      · rcases List.mem_append.mp hp with z | z
        · exact hok p z
        · rw [List.mem_singleton.mp z]
          exact ⟨hppl, hrok⟩
  · obtain ⟨kv, rv, jv, wv, iv, fs, ps, rfl, k1, hp1, hf1, hfs, hpl, hok⟩ := hv
    refine ⟨_, rfl, fd, _, rfl, hf1, fun t ht4 => ?_⟩
    have kt := Kp.new (T := T) (M := No) (o := .tup (fs.map V.ref)) ht4
    exact q _ t ps (k1.trN kt) ((hp1.kn kt).le (by omega)) ⟨fs, upd_same, hfs.mono fun a x z => z.keep kt.tp⟩ hpl hok
end
end K9

set_option maxHeartbeats 4000000
namespace K9
open PySem PySem.Spec PyProof.Rows L2 NdefX LamX
theorem picOk_of {ps : List (List (List Int))} {l u d : Int} {wd ht : Nat} (n0 : 1 ≤ ps.length) (n1 : ps.length ≤ 4) (w0 : 1 ≤ wd) (w1 : wd ≤ 48) (h0 : 1 ≤ ht) (h1 : ht ≤ 48) (d0 : 1 ≤ d ∧ d ≤ 65535) (hl : -1000 ≤ l ∧ l ≤ 1000) (hu : -1000 ≤ u ∧ u ≤ 1000)
    (h : ∀ p ∈ ps, p.length = ht ∧ ∀ row ∈ p, row.length = wd ∧ ∀ x ∈ row, 0 ≤ x ∧ x ≤ d) : PicOk ⟨ps, l, u, d⟩ := by
  cases ps with
  | nil => exact absurd n0 (by decide)
  | cons p r =>
    have hp := h p List.mem_cons_self
    have eh : (Pic.mk (p :: r) l u d).high = ht := hp.1
    have ew : (Pic.mk (p :: r) l u d).wide = wd := by
      show (p.headD []).length = wd
      cases p with
      | nil => exact absurd hp.1 (by simp; omega)
      | cons a b => exact (hp.2 a List.mem_cons_self).1
    exact ⟨n0, n1, by omega, by omega, by omega, by omega, fun q hq => by rw [eh]; exact (h q hq).1, fun q hq row hr => by rw [ew]; exact ((h q hq).2 row hr).1, fun q hq row hr x hx => ((h q hq).2 row hr).2 x hx, d0.1, d0.2, hl, hu⟩
section
variable {P : Program} {w : World} {K : PySem.W.Frag} {mg : Str → Option Value} {base : Heap} {T : List NTab}
def spLPic (K : PySem.W.Frag) (T : List NTab) : Sp := fun vs H Q _ => ∃ (pen pl : Addr) (np b : Nat) (deep : Int), vs = [.ref pen, .int np, .int deep, .int 5] ∧ PenAt H pen pl b ∧ 1 ≤ np ∧ np ≤ 4 ∧ 1 ≤ deep ∧ deep ≤ 65535 ∧ b ≤ 800000000 ∧
  ∀ (H' : Hp) (pa : Addr) (p : Pic), Kp T (On pen) H H' → PenAt H' pen pl (b + 304) → PicAt K H' pa p → PicOk p → p.planes.length = np → p.depth = deep → Q (.ref pa) H'
theorem ok_law_picture (X : Tx w K mg) : Hd P w K mg base 7 (He.ga K "_law_picture") (spLPic K T) := by
  refine mk_hd X.F_law_picture sc_law_picture (fun _ _ _ _ ⟨_, _, _, _, _, e, _⟩ => by rw [e]; rfl) (fun cdv A outer s H vs Q E hr h => ?_)
  obtain ⟨pen, pl, np, b, deep, rfl, hp, hn0, hn1, hd0, hd1, hb, q⟩ := h
  have nd := sc_law_picture.nd
  have D : Hd P w K mg base 1 (He.ga K "_law_draw") (spDraw T) := ok_draw X
  refine ⟨_, pss_cons (ps_par (i := 4) (j := 5) (by rfl) nd rfl rfl (by decide) rfl rfl (pa_cons (pe_op op_add pe_int (pe_h D hr X.g_law_draw (pa_cons (pv 0) (pa_cons (pv 3) pa_nil)))) (pa_cons (pe_op op_add pe_int (pe_h D hr X.g_law_draw (pa_cons (pv 0) (pa_cons (pv 3) pa_nil)))) pa_nil)) (by rfl))
    (pss_cons (ps_par (i := 6) (j := 7) (by rfl) nd rfl rfl (by decide) rfl rfl (pa_cons (pe_op op_sub (pe_h D hr X.g_law_draw (pa_cons (pv 0) (pa_cons pe_int pa_nil))) pe_int) (pa_cons (pe_op op_sub (pe_h D hr X.g_law_draw (pa_cons (pv 0) (pa_cons pe_int pa_nil))) pe_int) pa_nil)) (by rfl))
    (pss_one (ps_ret (pe_pic (T := T) X rfl rfl rfl hr (pa_cons (pe_h (ok_law_planes (T := T) X) hr X.g_law_planes (pa_cons (pv 0) (pa_cons (pv 1) (pa_cons (pv 4) (pa_cons (pv 5) (pa_cons (pv 2) pa_nil)))))) pa_nil) (pk_cons (pv 6) (pk_cons (pv 7) (pk_cons (pv 2) pk_nil))))))), ?_⟩
  refine ⟨_, rfl, _, rfl, pen, pl, 5, b, rfl, hp, by decide, by decide, by omega, fun r1 H1 r10 r11 k1 hp1 => ?_⟩
  refine ⟨_, _, rfl, rfl, ?_⟩
  refine ⟨_, rfl, _, rfl, pen, pl, 5, b + 1, rfl, hp1, by decide, by decide, by omega, fun r2 H2 r20 r21 k2 hp2 => ?_⟩
  refine ⟨_, _, rfl, rfl, _, _, rfl, ?_⟩
  refine ⟨_, rfl, pen, pl, 13, b + 2, rfl, hp2, by decide, by decide, by omega, fun r3 H3 r30 r31 k3 hp3 => ?_⟩
  refine ⟨_, _, rfl, rfl, ?_⟩
  refine ⟨_, rfl, pen, pl, 13, b + 3, rfl, hp3, by decide, by decide, by omega, fun r4 H4 r40 r41 k4 hp4 => ?_⟩
  refine ⟨_, _, rfl, rfl, _, _, rfl, ?_⟩
  obtain ⟨wd, hwd⟩ : ∃ wd : Nat, 1 + r1 = (wd : Int) := ⟨(1 + r1).toNat, by omega⟩
  obtain ⟨ht, hht⟩ : ∃ ht : Nat, 1 + r2 = (ht : Int) := ⟨(1 + r2).toNat, by omega⟩
  refine ⟨_, rfl, _, rfl, _, rfl, _, rfl, _, rfl, pen, pl, np, wd, ht, b + 4, deep, (by show [V.ref pen, V.int (np : Int), V.int (1 + r1), V.int (1 + r2), V.int deep] = _; rw [hwd, hht]), hp4, hn1, by omega, by omega, hd0, hd1, by omega, fun H5 t ps k5 hp5 hps hpl hok => ?_⟩
  refine ⟨_, rfl, _, rfl, _, rfl, rfl, rfl, fun px pdx hpx hpdx pne => ?_⟩
  have k7 : Kp T No H5 (upd (upd H5 pdx (.own px)) px (.ins (He.ga K "Picture") pdx [])) := (Kp.new hpdx).tr (.new (by rw [upd_ne pne.symm]; exact hpx))
  have pok : PicOk ⟨ps, r3 - 6, r4 - 6, deep⟩ := picOk_of (wd := wd) (ht := ht) (by omega) (by omega) (by omega) (by omega) (by omega) (by omega) ⟨hd0, hd1⟩ ⟨by omega, by omega⟩ ⟨by omega, by omega⟩ hok
  refine ⟨px, pdx, t, ⟨ps, r3 - 6, r4 - 6, deep⟩, rfl, upd_same, hps.keep k7.tp, pok, fun H' k8 e8 => ⟨rfl, ?_⟩⟩
  have kN : Kp T No H5 H' := (k7.any.tr k8).own hpx
  exact q H' px ⟨ps, r3 - 6, r4 - 6, deep⟩ (((((k1.tr k2).tr k3).tr k4).tr k5).trN kN) ((hp5.kn kN).le (by omega)) ⟨pdx, t, e8, hps.keep kN.tp⟩ pok hpl rfl
def spLBorder (T : List NTab) : Sp := fun vs H Q _ => ∃ (pen pl : Addr) (b : Nat) (deep : Int), vs = [.ref pen, .int deep] ∧ PenAt H pen pl b ∧ 1 ≤ deep ∧ deep ≤ 65535 ∧ b ≤ 900000000 ∧ ∀ (H' : Hp) (bd : Bd), Kp T (On pen) H H' → PenAt H' pen pl (b + 2) → BdOk bd deep → Q (bdV bd) H'
theorem ok_law_border (X : Tx w K mg) : Hd P w K mg base 2 (He.ga K "_law_border") (spLBorder T) := by
  refine mk_hd X.F_law_border sc_law_border (fun _ _ _ _ ⟨_, _, _, _, e, _⟩ => by rw [e]; rfl) (fun cdv A outer s H vs Q E hr h => ?_)
  obtain ⟨pen, pl, b, deep, rfl, hp, hd0, hd1, hb, q⟩ := h
  have D : Hd P w K mg base 1 (He.ga K "_law_draw") (spDraw T) := ok_draw X
  refine ⟨_, pss_one (ps_ret (pe_ix ix_list (pe_lst (pa_cons pe_str (pa_cons pe_str (pa_cons pe_str (pa_cons pe_int (pa_cons (pv 1) (pa_cons (pe_h D hr X.g_law_draw (pa_cons (pv 0) (pa_cons (pe_op op_add (pv 1) pe_int) pa_nil))) pa_nil))))))) (pe_h D hr X.g_law_draw (pa_cons (pv 0) (pa_cons pe_int pa_nil))) (fun _ _ => rfl))), ?_⟩
  refine ⟨_, rfl, _, rfl, _, rfl, _, _, rfl, rfl, pen, pl, deep + 1, b, rfl, hp, by omega, by omega, by omega, fun r1 H1 r10 r11 k1 hp1 => ?_⟩
  refine ⟨small_tup (by show (6 : Nat) ≤ 1000; decide), fun sl hsl => ?_⟩
  have ks : Kp T No H1 (upd H1 sl (.lst (([.near, .wrapped, .mirrored, .num 0, .num deep, .num r1] : List Bd).map bdV))) := .new hsl
  refine ⟨_, rfl, pen, pl, 6, b + 1, rfl, hp1.kn ks, by decide, by decide, by omega, fun r2 H2 r20 r21 k2 hp2 => ?_⟩
  have hi : r2.toNat < ([.near, .wrapped, .mirrored, .num 0, .num deep, .num r1] : List Bd).length := by show r2.toNat < 6; omega
  refine ⟨_, _, _, _, rfl, rfl, SqL.of (k2.lst upd_same (hp1.there hsl)), atI_int (xs := ([.near, .wrapped, .mirrored, .num 0, .num deep, .num r1] : List Bd).map bdV) r20 (map_at (List.getElem?_eq_getElem hi)), q H2 _ ((k1.trN ks).tr k2) hp2 ?_⟩
  have hm := List.getElem_mem hi
  generalize ([.near, .wrapped, .mirrored, .num 0, .num deep, .num r1] : List Bd)[r2.toNat] = bd at hm
  intro n e
  rw [e] at hm
  simp only [List.mem_cons, List.not_mem_nil, or_false, reduceCtorEq, false_or, Bd.num.injEq] at hm
  omega
def spLWin (T : List NTab) : Sp := fun vs H Q _ => ∃ (pen pl : Addr) (b : Nat) (far limit : Int), vs = [.ref pen, .int far, .int limit] ∧ PenAt H pen pl b ∧ 0 ≤ far ∧ far ≤ 900 ∧ 1 ≤ limit ∧ limit ≤ 48 ∧ b ≤ 900000000 ∧ ∀ (H' : Hp) (t : Addr) (win : Win), Kp T (On pen) H H' → PenAt H' pen pl (b + 4) → WinAt H' t win → WinOk win → Q (.ref t) H'
theorem ok_law_window (X : Tx w K mg) : Hd P w K mg base 2 (He.ga K "_law_window") (spLWin T) := by
  refine mk_hd X.F_law_window sc_law_window (fun _ _ _ _ ⟨_, _, _, _, _, e, _⟩ => by rw [e]; rfl) (fun cdv A outer s H vs Q E hr h => ?_)
  obtain ⟨pen, pl, b, far, limit, rfl, hp, hf0, hf1, hl0, hl1, hb, q⟩ := h
  have nd := sc_law_window.nd
  have D : Hd P w K mg base 1 (He.ga K "_law_draw") (spDraw T) := ok_draw X
  refine ⟨_, pss_cons (ps_par (i := 3) (j := 4) (by rfl) nd rfl rfl (by decide) rfl rfl (pa_cons (pe_op op_sub (pe_h D hr X.g_law_draw (pa_cons (pv 0) (pa_cons (pe_op op_add (pe_op op_mul pe_int (pv 1)) pe_int) pa_nil))) (pv 1)) (pa_cons (pe_op op_sub (pe_h D hr X.g_law_draw (pa_cons (pv 0) (pa_cons (pe_op op_add (pe_op op_mul pe_int (pv 1)) pe_int) pa_nil))) (pv 1)) pa_nil)) (by rfl))
    (pss_one (ps_ret (pe_tup (pa_cons (pv 3) (pa_cons (pv 4) (pa_cons (pe_op op_add pe_int (pe_h D hr X.g_law_draw (pa_cons (pv 0) (pa_cons (pv 2) pa_nil)))) (pa_cons (pe_op op_add pe_int (pe_h D hr X.g_law_draw (pa_cons (pv 0) (pa_cons (pv 2) pa_nil)))) pa_nil))))))), ?_⟩
  refine ⟨_, rfl, _, rfl, _, _, rfl, rfl, .inl ⟨by decide, by decide⟩, _, _, rfl, rfl, pen, pl, 2 * far + 1, b, rfl, hp, by omega, by omega, by omega, fun r1 H1 r10 r11 k1 hp1 => ?_⟩
  refine ⟨_, rfl, _, _, rfl, rfl, ?_⟩
  refine ⟨_, rfl, _, rfl, _, _, rfl, rfl, .inl ⟨by decide, by decide⟩, _, _, rfl, rfl, pen, pl, 2 * far + 1, b + 1, rfl, hp1, by omega, by omega, by omega, fun r2 H2 r20 r21 k2 hp2 => ?_⟩
  refine ⟨_, rfl, _, _, rfl, rfl, _, _, rfl, ?_⟩
  refine ⟨_, rfl, _, rfl, _, rfl, _, rfl, pen, pl, limit, b + 2, rfl, hp2, hl0, by omega, by omega, fun r3 H3 r30 r31 k3 hp3 => ?_⟩
  refine ⟨_, _, rfl, rfl, _, rfl, _, rfl, pen, pl, limit, b + 3, rfl, hp3, hl0, by omega, by omega, fun r4 H4 r40 r41 k4 hp4 => ?_⟩
  refine ⟨_, _, rfl, rfl, small_tup (by show (4 : Nat) ≤ 1000; decide), fun t ht => ?_⟩
  exact q _ t ⟨r1 - far, r2 - far, 1 + r3, 1 + r4⟩ ((((k1.tr k2).tr k3).tr k4).trN (.new ht)) (hp4.kn (.new (T := T) ht)) upd_same ⟨⟨by show -1000 ≤ r1 - far; omega, by show r1 - far ≤ 1000; omega⟩, ⟨by show -1000 ≤ r2 - far; omega, by show r2 - far ≤ 1000; omega⟩, ⟨by show 1 ≤ 1 + r3; omega, by show 1 + r3 ≤ 48; omega⟩, ⟨by show 1 ≤ 1 + r4; omega, by show 1 + r4 ≤ 48; omega⟩⟩
end
end K9

set_option maxHeartbeats 4000000
namespace K9
open PySem PySem.Spec PyProof.Rows L2 NdefX LamX
theorem rg_at {m : Int} {k : Nat} (hk : (k : Int) < m) : (rgV 0 m)[k]? = some (.int k) := by
  unfold rgV
  rw [List.getElem?_map, List.getElem?_range (by omega)]
  show some (V.int (0 + (k : Int))) = _
  rw [Int.zero_add]
theorem there_back {m k : Int} (h0 : 0 ≤ k) (h1 : k < 2 * m) : atI (rgV 0 m ++ (rgV 0 m).reverse) k = some (.int (if k < m then k else 2 * m - 1 - k)) := by
  refine atI_int h0 ?_
  have hl : (rgV 0 m).length = m.toNat := by rw [rgV_length]; congr 1; omega
  by_cases h : k < m
  · rw [if_pos h, List.getElem?_append_left (by omega), rg_at (by omega)]
    congr 2
    omega
  · rw [if_neg h, List.getElem?_append_right (by omega), hl, List.getElem?_reverse (by omega), hl, rg_at (by omega)]
    congr 2
    omega
section
variable {P : Program} {w : World} {K : PySem.W.Frag} {mg : Str → Option Value} {base : Heap} {T : List NTab}
def spLOne (T : List NTab) : Sp := fun vs H Q _ => ∃ b f m p, vs = [bdV b, .int f, .int m, .int p] ∧ b.isNum = false ∧ 1 ≤ m ∧ m ≤ 48 ∧ ∀ H', Kp T No H H' → Q (.int (fold1 b f m p)) H'
theorem ok_one_back (X : Tx w K mg) : Hd P w K mg base 1 (He.ga K "_law_one_back") (spLOne T) := by
  refine mk_hd X.F_law_one_back sc_law_one_back (fun _ _ _ _ ⟨_, _, _, _, e, _⟩ => by rw [e]; rfl) (fun cdv A outer s H vs Q E hr h => ?_)
  obtain ⟨b, f, m, p, rfl, hb, hm, hm2, q⟩ := h
  have nd := sc_law_one_back.nd
  refine ⟨_, pss_cons (ps_set (i := 4) nd rfl (.inl rfl) (pe_op op_sub (pv 3) (pv 1)))
    (pss_cons (ps_if (pt_cmpR op_eq (pv 0) pe_str (nomark _)) (pss_one (ps_ret (pe_op op_add (pv 1) (pe_op op_mod (pv 4) (pv 2))))) pss_nil)
    (pss_cons (ps_if (pt_cmpR op_eq (pv 0) pe_str (nomark _)) (pss_one (ps_ret (pe_op op_add (pv 1) (pe_ix ix_list (pe_op op_cat (pe_listRg (by rfl) rfl X.f_list (prg_1 rfl X.f_range (pv 2))) (pe_revL (pe_listRg (by rfl) rfl X.f_list (prg_1 rfl X.f_range (pv 2))))) (pe_op op_mod (pv 4) (pe_op op_mul pe_int (pv 2))) (fun _ _ => rfl))))) pss_nil)
    (pss_one (ps_ret (pe_op op_add (pv 1) (pe_ix ix_list (pe_lst (pa_cons (pv 4) (pa_cons pe_int (pa_cons (pe_op op_sub (pv 2) pe_int) pa_nil)))) (pe_op op_add (pe_callTy call_int1 (by rfl) X.f_int bb_int (pa_cons (pe_cmpR op_lt (pv 4) pe_int (nomark _)) pa_nil)) (pe_op op_mul pe_int (pe_callTy call_int1 (by rfl) X.f_int bb_int (pa_cons (pe_cmpR op_ge (pv 4) (pv 2) (nomark _)) pa_nil)))) (fun _ _ => rfl))))))), ?_⟩
  refine ⟨_, rfl, _, rfl, _, _, rfl, rfl, ?_⟩
  have qi : ∀ i H', i = fold1 b f m p → Kp T No H H' → Q (.int i) H' := fun i H' e k => by rw [e]; exact q H' k
  cases b with
  | num n => cases hb
  | near =>
    refine ⟨_, rfl, rfl, _, rfl, iteD (fun z => absurd z (by decide +kernel)) fun _ => ?_⟩
    refine ⟨_, rfl, rfl, _, rfl, iteD (fun z => absurd z (by decide +kernel)) fun _ => ?_⟩
    refine ⟨_, rfl, _, rfl, _, rfl, _, _, rfl, rfl, small_tup (by show (3 : Nat) ≤ 1000; decide), fun sl hsl => ?_⟩
    have ks : Kp T No H (upd H sl (.lst (([p - f, 0, m - 1] : List Int).map V.int))) := .new hsl
    refine ⟨_, rfl, _, _, rfl, rfl, .inr ⟨_, rfl, ?_⟩⟩
    refine ⟨_, rfl, _, rfl, _, _, rfl, rfl, .inr ⟨_, rfl, _, _, rfl, rfl, .inl ⟨by decide, by decide⟩, _, _, rfl, rfl, ?_⟩⟩
    by_cases h0 : p - f < 0
    · have h1 : ¬ m ≤ p - f := by omega
      refine ⟨_, _, _, .int 0, rfl, rfl, SqL.of upd_same, ?_, _, _, rfl, rfl, qi _ _ ?_ ks⟩
      · rw [decide_eq_true h0, decide_eq_false h1]
        rfl
      · simp only [fold1]
        rw [if_pos h0]
    · by_cases h1 : m ≤ p - f
      · refine ⟨_, _, _, .int (m - 1), rfl, rfl, SqL.of upd_same, ?_, _, _, rfl, rfl, qi _ _ ?_ ks⟩
        · rw [decide_eq_false h0, decide_eq_true h1]
          rfl
        · simp only [fold1]
          rw [if_neg h0, if_pos h1]
      · refine ⟨_, _, _, .int (p - f), rfl, rfl, SqL.of upd_same, ?_, _, _, rfl, rfl, qi _ _ ?_ ks⟩
        · rw [decide_eq_false h0, decide_eq_false h1]
          rfl
        · simp only [fold1]
          rw [if_neg h0, if_neg h1]
  | wrapped =>
    refine ⟨_, rfl, rfl, _, rfl, iteD (fun _ => ?_) fun z => absurd rfl z⟩
    exact ⟨_, rfl, _, rfl, _, rfl, _, _, rfl, rfl, (by show 0 < m; omega), _, _, rfl, rfl, qi _ _ rfl .refl⟩
  | mirrored =>
    refine ⟨_, rfl, rfl, _, rfl, iteD (fun z => absurd z (by decide +kernel)) fun _ => ?_⟩
    refine ⟨_, rfl, rfl, _, rfl, iteD (fun _ => ?_) fun z => absurd rfl z⟩
    have rg : RgOk 0 m := RgOk.of_le (by decide) (by omega) (by decide) (by omega)
    refine ⟨_, rfl, _, rfl, _, rfl, rg, fun a ha => ?_⟩
    have k1 : Kp T No H (upd H a (.lst (rgV 0 m))) := .new ha
    refine ⟨_, rfl, _, rfl, rg, fun c hc => ?_⟩
    have k2 : Kp T No _ _ := .new (o := .lst (rgV 0 m)) hc
    have ha2 := k2.lst upd_same id
    refine ⟨c, _, rfl, SqL.of upd_same, fun d hd => ?_⟩
    have k3 : Kp T No _ _ := .new (o := .lst (rgV 0 m).reverse) hd
    have hl : (rgV 0 m).length = m.toNat := by rw [rgV_length]; congr 1; omega
    refine ⟨a, d, _, _, rfl, rfl, k3.lst ha2 id, upd_same, small_tup (by rw [List.length_reverse, hl]; omega), fun e he => ?_⟩
    have k4 : Kp T No _ _ := .new (o := .lst (rgV 0 m ++ (rgV 0 m).reverse)) he
    refine ⟨_, rfl, _, rfl, _, _, rfl, rfl, .inl ⟨by decide, by decide⟩, _, _, rfl, rfl, (by show 0 < 2 * m; omega), ?_⟩
    refine ⟨_, _, _, _, rfl, rfl, SqL.of upd_same, there_back (Int.emod_nonneg _ (by omega)) (Int.emod_lt_of_pos _ (by omega)), _, _, rfl, rfl, qi _ _ rfl (((k1.tr k2).tr k3).tr k4)⟩
def spLBack (T : List NTab) : Sp := fun vs H Q _ => ∃ b a win x y, vs = [bdV b, .ref a, .int x, .int y] ∧ WinAt H a win ∧ WinOk win ∧ (back b win x y = none → Q .non H) ∧ ∀ c, back b win x y = some c → ∀ H' t, Kp T No H H' → H' t = some (.tup [.int c.1, .int c.2]) → Q (.ref t) H'
theorem ok_law_back (X : Tx w K mg) : Hd P w K mg base 2 (He.ga K "_law_back") (spLBack T) := by
  refine mk_hd X.F_law_back sc_law_back (fun _ _ _ _ ⟨_, _, _, _, _, e, _⟩ => by rw [e]; rfl) (fun cdv A outer s H vs Q E hr h => ?_)
  obtain ⟨b, a, win, x, y, rfl, hw, ok, q0, q⟩ := h
  have nd := sc_law_back.nd
  have O : Hd P w K mg base 1 (He.ga K "_law_one_back") (spLOne T) := ok_one_back X
  have tail2 : ∃ t, PSs (cxOf CX0 P w K mg base ["_law_edge", "_law_window_here", "_law_x", "_law_y", "_law_west", "_law_north", "_law_broad", "_law_tall"] "_law_back" (defScope s_law_back) (He.ga K "_law_back") cdv A outer s H E).nox ((defBody s_law_back).drop 2) t ∧
      (¬ inW win x y → t { nx := fun _ H' => Q .non H', rt := Q } [some (bdV b), some (.ref a), some (.int x), some (.int y), some (.int win.l), some (.int win.u), some (.int win.w), some (.int win.h)] H) := by
    refine ⟨_, pss_cons (ps_if (pt_not (pt_val (pe_is X.f_isinstance X.f_str (pv 0) bb_str))) (pss_one (ps_ret pe_non)) pss_nil)
      (pss_one (ps_ret (pe_tup (pa_cons (pe_h O hr X.g_law_one_back (pa_cons (pv 0) (pa_cons (pv 4) (pa_cons (pv 6) (pa_cons (pv 2) pa_nil))))) (pa_cons (pe_h O hr X.g_law_one_back (pa_cons (pv 0) (pa_cons (pv 5) (pa_cons (pv 7) (pa_cons (pv 3) pa_nil))))) pa_nil))))), fun hin => ?_⟩
    refine ⟨_, rfl, bd_str b H _ (fun n eb => ⟨_, rfl, iteT (q0 ?_)⟩) fun eb => ⟨_, rfl, iteF ?_⟩⟩
    · unfold back
      rw [if_neg hin, eb]
      rfl
    · refine ⟨_, rfl, _, rfl, _, rfl, _, rfl, b, _, _, _, rfl, eb, ok.ow.1, ok.ow.2, fun H1 k1 => ?_⟩
      refine ⟨_, rfl, _, rfl, _, rfl, _, rfl, b, _, _, _, rfl, eb, ok.oh.1, ok.oh.2, fun H2 k2 => ?_⟩
      refine ⟨small2, fun t ht => q (_, _) ?_ _ t ((k1.tr k2).tr (.new ht)) upd_same⟩
      unfold back
      rw [if_neg hin, eb]
      rfl
  obtain ⟨t2, p2, h2⟩ := tail2
  refine ⟨_, pss_cons (ps_asg (pv 1) (pg_tup rfl (pgs_cons (pg_name (i := 4) nd rfl (.inl rfl)) (pgs_cons (pg_name (i := 5) nd rfl (.inl rfl)) (pgs_cons (pg_name (i := 6) nd rfl (.inl rfl)) (pgs_cons (pg_name (i := 7) nd rfl (.inl rfl)) pgs_nil))))))
    (pss_cons (ps_if (PW.pt (pw_and (pt_chain op_le op_lt (pv 4) (pv 2) (pe_op op_add (pv 4) (pv 6))) (pw_and1 (pt_chain op_le op_lt (pv 5) (pv 3) (pe_op op_add (pv 5) (pv 7)))))) (pss_one (ps_ret (pe_tup (pa_cons (pv 2) (pa_cons (pv 3) pa_nil))))) pss_nil) p2), ?_⟩
  refine ⟨_, rfl, a, _, rfl, SqT.of hw, rfl, _, _, rfl, _, _, rfl, _, _, rfl, _, _, rfl, rfl, ?_⟩
  refine ⟨_, rfl, _, rfl, _, _, rfl, rfl, _, rfl, iteD (fun h1 => ?_) fun h1 => ⟨_, rfl, iteF (h2 fun z => h1 z.1.1)⟩⟩
  refine ⟨_, rfl, _, rfl, _, _, rfl, rfl, _, _, rfl, rfl, _, rfl, iteD (fun h3 => ?_) fun h3 => h2 fun z => h3 z.1.2⟩
  refine ⟨_, rfl, _, rfl, _, _, rfl, rfl, _, rfl, iteD (fun h4 => ?_) fun h4 => ⟨_, rfl, iteF (h2 fun z => h4 z.2.1)⟩⟩
  refine ⟨_, rfl, _, rfl, _, _, rfl, rfl, _, _, rfl, rfl, _, rfl, iteD (fun h5 => ?_) fun h5 => h2 fun z => h5 z.2.2⟩
  refine ⟨_, rfl, _, rfl, small2, fun t ht => q (x, y) ?_ _ t (.new ht) upd_same⟩
  unfold back
  rw [if_pos ⟨⟨h1, h3⟩, h4, h5⟩]
end
end K9

set_option maxHeartbeats 4000000
namespace K9
open PySem PySem.Spec PyProof.Rows L2 NdefX LamX
theorem kind_src {s : Stg} (h : s.nargs = 1) : ¬ (V.str s.kind = V.str "source") := by
  cases s with
  | source p b => exact absurd h (by show ¬ ((0 : Nat) = 1); decide)
  | _ => exact fun z => absurd (V.str.inj z) (by simp only [Stg.kind]; decide +kernel)
theorem kind_cur {s : Stg} (h : ¬ gCur s) : ¬ (V.str s.kind = V.str "curved") := by
  cases s with
  | curved t dp => exact absurd ⟨_, _, rfl⟩ h
  | _ => exact fun z => absurd (V.str.inj z) (by simp only [Stg.kind]; decide +kernel)
theorem kind_mix (s : Stg) : ¬ (V.str s.kind = V.str "mixed") := by
  cases s <;> exact fun z => absurd (V.str.inj z) (by simp only [Stg.kind]; decide +kernel)
/-- what a stage is made of stands behind its kind -/
theorem StgAt.of_at {K : PySem.W.Frag} {H : Hp} {a : Addr} {of : Str} {s : Stg} (h : StgAt K H a of s) (n : s.nargs = 1) : ∃ r, H a = some (.tup (.str s.kind :: .str of :: r)) := by
  obtain ⟨r, h1, h2, h3⟩ := h.tup2
  rw [n] at h3
  unfold madeV at h3
  rw [n] at h3
  cases r with
  | nil => cases h3
  | cons a r =>
    have e : a = .str of := by
      have := List.cons.inj (show [a] = [V.str of] from h3)
      exact this.1
    rw [e] at h1
    exact ⟨r, h1⟩
theorem nargs01 (s : Stg) : (∃ p b, s = .source p b) ∨ s.nargs = 1 := by
  cases s with
  | source p b => exact .inl ⟨p, b, rfl⟩
  | _ => exact .inr rfl
section
variable {P : Program} {w : World} {K : PySem.W.Frag} {mg : Str → Option Value} {base : Heap} {T : List NTab}
theorem Stgs.below {H : Hp} {kvs : List (Key × V)} {nm : List Str} {ss : List Stg} (S : Stgs K H kvs nm ss) {i : Nat} {x of : Str} {s : Stg} (e : nm[i]? = some x) (n : s.nargs = 1) (hm : madeV s of = (if i = 0 then [] else [nm.getD (i - 1) ""])) : ∃ j, i = j + 1 ∧ nm[j]? = some of := by
  unfold madeV at hm
  rw [if_neg (by omega)] at hm
  cases i with
  | zero => cases hm
  | succ j =>
    rw [if_neg (Nat.succ_ne_zero j)] at hm
    have e1 := (List.cons.inj hm).1
    have hj : j < nm.length := by
      have := (List.getElem?_eq_some_iff.mp e).1
      omega
    refine ⟨j, rfl, ?_⟩
    rw [e1, show j + 1 - 1 = j from rfl, getD_of (List.getElem?_eq_getElem hj)]
    exact List.getElem?_eq_getElem hj
def spLShape (K : PySem.W.Frag) (T : List NTab) (i : Nat) : Sp := fun vs H Q _ => ∃ (d : Addr) (kvs : List (Key × V)) (nm : List Str) (ss : List Stg) (x : Str) (n : Nat) (dd : Int), vs = [.ref d, .str x] ∧ H d = some (.dK kvs) ∧ Stgs K H kvs nm ss ∧ nm[i]? = some x ∧ ChOk (ss.take (i + 1)).reverse n dd ∧ ∀ H' t, Kp T No H H' → ShAt H' t n dd → Q (.ref t) H'
theorem shape_step (X : Tx w K mg) {m0 k : Nat} (A : Hd P w K mg base k (He.ga K "_law_shape") (U (spLShape K T) m0)) : Hd P w K mg base (k + 1) (He.ga K "_law_shape") (U (spLShape K T) (m0 + 1)) := by
  refine mk_hd X.F_law_shape sc_law_shape (fun _ _ _ _ ⟨_, _, _, _, _, _, _, _, _, e, _⟩ => by rw [e]; rfl) (fun cdv A' outer s H vs Q E hr h => ?_)
  obtain ⟨i, him, d, kvs, nm, ss, x, n, dd, rfl, hd, S, hx, ok, q⟩ := h
  have nd := sc_law_shape.nd
  obtain ⟨sg, sa, of, es, ea, hsa, hmade⟩ := S.get hx
  rw [chain_eq es] at ok
  refine ⟨_, pss_cons (ps_set (i := 2) nd rfl (.inl rfl) (pe_dget (hu_of hr) (pv 0) (pv 1) (fun _ _ => rfl)))
    (pss_cons (ps_if (pt_cmpR op_eq (pe_ix ix_tup (pv 2) pe_int (fun _ _ => rfl)) pe_str (nomark _)) (pss_one (ps_ret (pe_tup (pa_cons (pe_callB call_len_seq (by rfl) X.f_len bb_len (pa_cons (pe_fld (pe_ix ix_tup (pv 2) pe_int (fun _ _ => rfl)) rfl) pa_nil)) (pa_cons (pe_fld (pe_ix ix_tup (pv 2) pe_int (fun _ _ => rfl)) rfl) pa_nil))))) pss_nil)
    (pss_cons (ps_asg (pe_h A hr X.g_law_shape (pa_cons (pv 0) (pa_cons (pe_ix ix_tup (pv 2) pe_int (fun _ _ => rfl)) pa_nil))) (pg_tup rfl (pgs_cons (pg_name (i := 3) nd rfl (.inl rfl)) (pgs_cons (pg_name (i := 4) nd rfl (.inl rfl)) pgs_nil))))
    (pss_cons (ps_if (PW.pt (pw_and (pt_cmpR op_eq (pe_ix ix_tup (pv 2) pe_int (fun _ _ => rfl)) pe_str (nomark _)) (pw_and1 (pt_cmpR op_notN (pe_ix ix_tup (pv 2) pe_int (fun _ _ => rfl)) pe_non (nomark _))))) (pss_one (ps_set (i := 4) nd rfl (.inl rfl) (pe_ix ix_tup (pv 2) pe_int (fun _ _ => rfl)))) pss_nil)
    (pss_cons (ps_if (pt_cmpR op_eq (pe_ix ix_tup (pv 2) pe_int (fun _ _ => rfl)) pe_str (nomark _)) (pss_one ps_never) pss_nil)
    (pss_one (ps_ret (pe_tup (pa_cons (pv 3) (pa_cons (pv 4) pa_nil))))))))), ?_⟩
  refine ⟨_, rfl, _, rfl, d, .ref sa, rfl, dget_k (k := .inr x) hd ea, ?_⟩
  obtain ⟨r, ht, _, _⟩ := hsa.tup2
  refine ⟨_, rfl, _, _, _, _, rfl, rfl, SqT.of ht, atI_nat (j := 0) rfl, rfl, _, rfl, ?_⟩
  rcases nargs01 sg with ⟨pic, b, rfl⟩ | hn
  · obtain ⟨pa, hs, dx, t, hp, hpl⟩ := hsa
    obtain ⟨e0, pok, bok, rfl, rfl⟩ := ok
    obtain ⟨rs, hpt, ha⟩ := hpl
    refine iteD (fun _ => ?_) fun z => absurd rfl z
    refine ⟨_, rfl, _, _, _, _, rfl, rfl, SqT.of hs, atI_nat (j := 1) rfl, ?_⟩
    refine ⟨_, _, _, _, _, rfl, hp, X.c_Picture, X.n_Picture_planes, picF_planes _ _, ?_⟩
    refine ⟨_, _, rfl, .inr (SqT.of hpt), ?_⟩
    refine ⟨_, rfl, _, _, _, _, rfl, rfl, SqT.of hs, atI_nat (j := 1) rfl, ?_⟩
    refine ⟨_, _, _, _, _, rfl, hp, X.c_Picture, X.n_Picture_depth, picF_depth _ _, ?_⟩
    refine ⟨small2, fun u hu => q _ u (.new hu) ?_⟩
    rw [List.length_map, ha.len]
    exact upd_same
  · refine iteD (fun z => absurd z (kind_src hn)) fun _ => ?_
    obtain ⟨r, ht⟩ := hsa.of_at hn
    obtain ⟨j, rfl, hj⟩ := S.below hx hn hmade
    have hbelow : ∃ d0, ChOk (ss.take (j + 1)).reverse n d0 := ok.tail (by
      intro z
      have := congrArg List.length z
      rw [List.length_reverse, List.length_take] at this
      have h1 := S.len
      have h2 := (List.getElem?_eq_some_iff.mp hx).1
      have e0 : ([] : List Stg).length = 0 := rfl
      omega)
    obtain ⟨d0, okb⟩ := hbelow
    refine ⟨_, rfl, _, rfl, _, _, _, _, rfl, rfl, SqT.of ht, atI_nat (j := 1) rfl, ?_⟩
    refine ⟨j, by omega, d, kvs, nm, ss, of, n, d0, rfl, hd, S, hj, okb, fun H1 t k1 h1 => ?_⟩
    refine ⟨t, _, rfl, SqT.of h1, rfl, _, _, rfl, _, _, rfl, rfl, ?_⟩
    have ht1 := k1.tp _ _ ht
    refine ⟨_, rfl, _, _, _, _, rfl, rfl, SqT.of ht1, atI_nat (j := 0) rfl, rfl, _, rfl, ?_⟩
    by_cases hc : gCur sg
    · obtain ⟨tb, dp, rfl⟩ := hc
      obtain ⟨d1, ok1, tok⟩ := ok
      obtain ⟨_, rfl⟩ := ChOk.det ok1 okb
      obtain ⟨ta, hs, hta⟩ := hsa.kp k1 NoPic.no
      refine iteD (fun _ => ?_) fun z => absurd rfl z
      refine ⟨_, rfl, _, _, _, _, rfl, rfl, SqT.of hs, atI_nat (j := 3) rfl, rfl, _, rfl, ?_⟩
      cases dp with
      | none =>
        refine iteN (fun z => absurd rfl z) fun _ => ?_
        refine ⟨_, rfl, _, _, _, _, rfl, rfl, SqT.of hs, atI_nat (j := 0) rfl, rfl, _, rfl, iteD (fun z => absurd z (kind_mix (.curved tb none))) fun _ => ?_⟩
        refine ⟨_, rfl, _, rfl, small2, fun u hu => q _ u (k1.tr (.new hu)) ?_⟩
        rw [tok.bd]
        exact upd_same
      | some z =>
        refine iteN (fun _ => ?_) fun z => nomatch z
        refine ⟨_, rfl, _, _, _, _, rfl, rfl, SqT.of hs, atI_nat (j := 3) rfl, ?_⟩
        refine ⟨_, rfl, _, _, _, _, rfl, rfl, SqT.of hs, atI_nat (j := 0) rfl, rfl, _, rfl, iteD (fun z' => absurd z' (kind_mix (.curved tb (some z)))) fun _ => ?_⟩
        refine ⟨_, rfl, _, rfl, small2, fun u hu => q _ u (k1.tr (.new hu)) ?_⟩
        rw [tok.bd]
        exact upd_same
    · refine iteD (fun z => absurd z (kind_cur hc)) fun _ => ?_
      have e0 : d0 = dd := by
        cases sg with
        | source p b => exact absurd hn (by show ¬ ((0 : Nat) = 1); decide)
        | framed win b => exact (ChOk.det okb ok.1).2
        | moved a c => exact (ChOk.det okb ok.1).2
        | flipped b => exact (ChOk.det okb ok).2
        | turned => exact (ChOk.det okb ok).2
        | curved t dp => exact absurd ⟨_, _, rfl⟩ hc
      subst e0
      refine ⟨_, rfl, _, _, _, _, rfl, rfl, SqT.of ht1, atI_nat (j := 0) rfl, rfl, _, rfl, iteD (fun z => absurd z (kind_mix sg)) fun _ => ?_⟩
      exact ⟨_, rfl, _, rfl, small2, fun u hu => q _ u (k1.tr (.new hu)) upd_same⟩
theorem ok_law_shape (X : Tx w K mg) : ∀ m, Hd P w K mg base (m + 1) (He.ga K "_law_shape") (U (spLShape K T) m)
  | 0 => mk_hd (k := 0) X.F_law_shape sc_law_shape (fun _ _ _ _ ⟨_, h, _⟩ => absurd h (Nat.not_lt_zero _)) (fun _ _ _ _ _ _ _ _ _ ⟨_, h, _⟩ => absurd h (Nat.not_lt_zero _))
  | m + 1 => shape_step X (ok_law_shape X m)
end
end K9

set_option maxHeartbeats 4000000
namespace K9
open PySem PySem.Spec PyProof.Rows L2 NdefX LamX
theorem iteE {c : Bool} {A B : Prop} (e : c = true) (h : A) : if c = true then A else B := by
  rw [e]
  exact h
theorem iteNE {c : Bool} {A B : Prop} (e : c = false) (h : B) : if c = true then A else B := by
  rw [e]
  exact h
abbrev sf : List V := [.str "source", .str "framed"]
theorem sf_source : (if false = true then !inV (.str "source") sf else inV (.str "source") sf) = true := by decide +kernel
theorem sf_framed : (if false = true then !inV (.str "framed") sf else inV (.str "framed") sf) = true := by decide +kernel
theorem sf_moved : (if false = true then !inV (.str "moved") sf else inV (.str "moved") sf) = false := by decide +kernel
theorem sf_flipped : (if false = true then !inV (.str "flipped") sf else inV (.str "flipped") sf) = false := by decide +kernel
theorem sf_turned : (if false = true then !inV (.str "turned") sf else inV (.str "turned") sf) = false := by decide +kernel
theorem sf_curved : (if false = true then !inV (.str "curved") sf else inV (.str "curved") sf) = false := by decide +kernel
section
variable {P : Program} {w : World} {K : PySem.W.Frag} {mg : Str → Option Value} {base : Heap} {T : List NTab}
def spLPlain (K : PySem.W.Frag) (T : List NTab) (i : Nat) : Sp := fun vs H Q _ => ∃ (d : Addr) (mm : V) (kvs : List (Key × V)) (nm : List Str) (ss : List Stg) (x : Str) (xx yy : Int) (p n : Nat) (dd : Int), vs = [.ref d, mm, .str x, .int xx, .int yy, .int p] ∧ H d = some (.dK kvs) ∧ Stgs K H kvs nm ss ∧ nm[i]? = some x ∧ ChOk (ss.take (i + 1)).reverse n dd ∧ p < n ∧
  ∀ H', Kp T No H H' → Q (.int (val (ss.take (i + 1)).reverse xx yy p)) H'
theorem plain_step (X : Tx w K mg) {m0 k : Nat} (A : Hd P w K mg base k (He.ga K "_law_at") (U (spLPlain K T) m0)) : Hd P w K mg base (k + 3) (He.ga K "_law_plain") (U (spLPlain K T) (m0 + 1)) := by
  refine mk_hd X.F_law_plain sc_law_plain (fun _ _ _ _ ⟨_, _, _, _, _, _, _, _, _, _, _, _, _, e, _⟩ => by rw [e]; rfl) (fun cdv A' outer s H vs Q E hr h => ?_)
  obtain ⟨i, him, d, mm, kvs, nm, ss, x, xx, yy, p, n, dd, rfl, hd, S, hx, ok, hpn, q⟩ := h
  have nd := sc_law_plain.nd
  obtain ⟨sg, sa, of, es, ea, hsa, hmade⟩ := S.get hx
  rw [chain_eq es] at ok q
  refine ⟨_, pss_cons (ps_set (i := 6) nd rfl (.inl rfl) (pe_dget (hu_of hr) (pv 0) (pv 2) (fun _ _ => rfl)))
    (pss_cons (ps_if (pt_cmpR op_in_seq (pe_ix ix_tup (pv 6) pe_int (fun _ _ => rfl)) (pe_tup (pa_cons pe_str (pa_cons pe_str pa_nil))) rfl)
      (pss_cons (ps_set (i := 7) nd rfl (.inl rfl) (pe_ifExp (pt_cmpR op_eq (pe_ix ix_tup (pv 6) pe_int (fun _ _ => rfl)) pe_str (nomark _)) (pe_hm0 (pe_ix ix_tup (pv 6) pe_int (fun _ _ => rfl)) X.c_Picture X.me_Picture_window (ok_window X) hr) (pe_ix ix_tup (pv 6) pe_int (fun _ _ => rfl))))
      (pss_cons (ps_set (i := 8) nd rfl (.inl rfl) (pe_h (ok_law_back (T := T) X) hr X.g_law_back (pa_cons (pe_ix ix_tup (pv 6) (pe_un un_neg pe_int) (fun _ _ => rfl)) (pa_cons (pv 7) (pa_cons (pv 3) (pa_cons (pv 4) pa_nil))))))
      (pss_cons (ps_if (pt_cmpR op_isN (pv 8) pe_non (nomark _)) (pss_one (ps_ret (pe_ix ix_tup (pv 6) (pe_un un_neg pe_int) (fun _ _ => rfl)))) pss_nil)
      (pss_cons (ps_if (pt_cmpR op_eq (pe_ix ix_tup (pv 6) pe_int (fun _ _ => rfl)) pe_str (nomark _))
        (pss_cons (ps_set (i := 9) nd rfl (.inl rfl) (pe_ix ix_tup (pe_ix ix_tup (pe_fld (pe_ix ix_tup (pv 6) pe_int (fun _ _ => rfl)) rfl) (pv 5) (fun _ _ => rfl)) (pe_op op_sub (pe_ix ix_tup (pv 8) pe_int (fun _ _ => rfl)) (pe_ix ix_tup (pv 7) pe_int (fun _ _ => rfl))) (fun _ _ => rfl)))
        (pss_one (ps_ret (pe_ix ix_tup (pv 9) (pe_op op_sub (pe_ix ix_tup (pv 8) pe_int (fun _ _ => rfl)) (pe_ix ix_tup (pv 7) pe_int (fun _ _ => rfl))) (fun _ _ => rfl))))) pss_nil)
      (pss_one (ps_ret (pe_h A hr X.g_law_at (pa_cons (pv 0) (pa_cons (pv 1) (pa_cons (pe_ix ix_tup (pv 6) pe_int (fun _ _ => rfl)) (pa_cons (pe_ix ix_tup (pv 8) pe_int (fun _ _ => rfl)) (pa_cons (pe_ix ix_tup (pv 8) pe_int (fun _ _ => rfl)) (pa_cons (pv 5) pa_nil))))))))))))) pss_nil)
    (pss_cons (ps_if (pt_cmpR op_eq (pe_ix ix_tup (pv 6) pe_int (fun _ _ => rfl)) pe_str (nomark _))
      (pss_one (ps_ret (pe_h A hr X.g_law_at (pa_cons (pv 0) (pa_cons (pv 1) (pa_cons (pe_ix ix_tup (pv 6) pe_int (fun _ _ => rfl)) (pa_cons (pe_op op_sub (pv 3) (pe_ix ix_tup (pv 6) pe_int (fun _ _ => rfl))) (pa_cons (pe_op op_sub (pv 4) (pe_ix ix_tup (pv 6) pe_int (fun _ _ => rfl))) (pa_cons (pv 5) pa_nil))))))))) pss_nil)
    (pss_cons (ps_if (pt_cmpR op_eq (pe_ix ix_tup (pv 6) pe_int (fun _ _ => rfl)) pe_str (nomark _))
      (pss_one (ps_ret (pe_h A hr X.g_law_at (pa_cons (pv 0) (pa_cons (pv 1) (pa_cons (pe_ix ix_tup (pv 6) pe_int (fun _ _ => rfl))
        (pa_cons (pe_ix ix_list (pe_lst (pa_cons (pv 3) (pa_cons (pe_un un_neg (pv 3)) pa_nil))) (pe_callTy call_int1 (by rfl) X.f_int bb_int (pa_cons (pe_ix ix_tup (pv 6) pe_int (fun _ _ => rfl)) pa_nil)) (fun _ _ => rfl))
        (pa_cons (pe_ix ix_list (pe_lst (pa_cons (pe_un un_neg (pv 4)) (pa_cons (pv 4) pa_nil))) (pe_callTy call_int1 (by rfl) X.f_int bb_int (pa_cons (pe_ix ix_tup (pv 6) pe_int (fun _ _ => rfl)) pa_nil)) (fun _ _ => rfl)) (pa_cons (pv 5) pa_nil))))))))) pss_nil)
    (pss_cons (ps_if (pt_cmpR op_eq (pe_ix ix_tup (pv 6) pe_int (fun _ _ => rfl)) pe_str (nomark _))
      (pss_one (ps_ret (pe_h A hr X.g_law_at (pa_cons (pv 0) (pa_cons (pv 1) (pa_cons (pe_ix ix_tup (pv 6) pe_int (fun _ _ => rfl)) (pa_cons (pv 4) (pa_cons (pv 3) (pa_cons (pv 5) pa_nil))))))))) pss_nil)
    (pss_one (ps_ret (pe_ix ix_tup (pe_ix ix_tup (pv 6) pe_int (fun _ _ => rfl)) (pe_h A hr X.g_law_at (pa_cons (pv 0) (pa_cons (pv 1) (pa_cons (pe_ix ix_tup (pv 6) pe_int (fun _ _ => rfl)) (pa_cons (pv 3) (pa_cons (pv 4) (pa_cons (pv 5) pa_nil))))))) (fun _ _ => rfl)))))))), ?_⟩
  refine ⟨_, rfl, _, rfl, d, .ref sa, rfl, dget_k (k := .inr x) hd ea, ?_⟩
  have prev : ∀ H1 u v Q', sg.nargs = 1 → Kp T No H H1 → (∀ H2, Kp T No H1 H2 → Q' (.int (val (ss.take i).reverse u v p)) H2) → U (spLPlain K T) m0 [.ref d, mm, .str of, .int u, .int v, .int p] H1 Q' E0 := fun H1 u v Q' hn k1 hq => by
    obtain ⟨j, rfl, hj⟩ := S.below hx hn hmade
    have hbelow : ∃ d0, ChOk (ss.take (j + 1)).reverse n d0 := ok.tail (by
      intro z
      have := congrArg List.length z
      rw [List.length_reverse, List.length_take] at this
      have h1 := S.len
      have h2 := (List.getElem?_eq_some_iff.mp hx).1
      have e0 : ([] : List Stg).length = 0 := rfl
      omega)
    obtain ⟨d0, okb⟩ := hbelow
    exact ⟨j, by omega, d, mm, kvs, nm, ss, of, u, v, p, n, d0, rfl, k1.dK hd id, S.kp k1 NoPic.no, hj, okb, hpn, hq⟩
  have tt0 : ∀ tt, H tt = none → Kp T No H (upd H tt (.tup sf)) := fun tt h => .new h
  cases sg with
  | source pic b =>
    obtain ⟨pa, hs, dx, t, hp, hpl⟩ := hsa
    obtain ⟨e0, pok, bok, rfl, rfl⟩ := ok
    refine ⟨_, rfl, _, _, _, _, rfl, rfl, SqT.of hs, atI_nat (j := 0) rfl, small2, fun tt htt => ⟨tt, sf, rfl, .inr (SqT.of upd_same), rfl, rfl, _, rfl, iteE sf_source ?_⟩⟩
    have k1 := tt0 tt htt
    have hs1 := k1.tp _ _ hs
    refine ⟨_, rfl, _, _, _, _, rfl, rfl, SqT.of hs1, atI_nat (j := 0) rfl, rfl, _, rfl, iteD (fun _ => ?_) fun z => absurd rfl z⟩
    have hp1 := k1.ins hp id
    refine ⟨_, rfl, _, _, _, _, rfl, rfl, SqT.of hs1, atI_nat (j := 1) rfl, pa, dx, _, rfl, hp1, picF_no _ _ (by decide +kernel), pa, pic, rfl, ⟨dx, t, hp1, hpl.keep k1.tp⟩, pok, fun wa hwa => ?_⟩
    have k2 := k1.tr (.new (o := .tup [.int pic.win.l, .int pic.win.u, .int pic.win.w, .int pic.win.h]) hwa)
    have hs2 := k2.tp _ _ hs
    refine ⟨_, rfl, _, rfl, _, _, _, _, rfl, rfl, SqT.of hs2, (rfl : atI [V.str "source", V.ref pa, bdV b] (-1) = some (bdV b)), _, rfl, _, rfl, _, rfl, b, wa, pic.win, xx, yy, rfl, upd_same, pok.win, fun hb => ?_, fun c hb H3 u k3 hu => ?_⟩
    · refine ⟨_, rfl, rfl, _, rfl, iteT ?_⟩
      refine ⟨_, rfl, _, rfl, _, _, _, _, rfl, rfl, SqT.of hs2, (rfl : atI [V.str "source", V.ref pa, bdV b] (-1) = some (bdV b)), ?_⟩
      have q := q _ k2
      rw [show val (Stg.source pic b :: (ss.take i).reverse) xx yy p = b.n by simp only [val, hb]] at q
      obtain ⟨n', rfl⟩ := back_none hb
      exact q
    · have k4 := k2.tr k3
      have hs4 := k4.tp _ _ hs
      have hw4 := k3.tp _ _ upd_same
      refine ⟨_, rfl, rfl, _, rfl, iteD (fun z => nomatch z) fun _ => ?_⟩
      refine ⟨_, rfl, _, _, _, _, rfl, rfl, SqT.of hs4, atI_nat (j := 0) rfl, rfl, _, rfl, iteD (fun _ => ?_) fun z => absurd rfl z⟩
      have hin := back_in pok.win.ow.1 pok.win.oh.1 hb
      obtain ⟨plane, row, e1, e2, e3⟩ := Pic.at_mem pok hpn hin
      obtain ⟨rs, ht, ha⟩ := hpl
      obtain ⟨r1, er1, rs1, ht1, ha1⟩ := ha.get e1
      obtain ⟨r2, er2, hr2⟩ := ha1.get e2
      have hin1 : pic.left ≤ c.1 := hin.1.1
      have hin2 : pic.up ≤ c.2 := hin.2.1
      refine ⟨_, rfl, _, _, _, _, rfl, rfl, SqT.of hs4, atI_nat (j := 1) rfl, ?_⟩
      refine ⟨_, _, _, _, _, rfl, k4.ins hp id, X.c_Picture, X.n_Picture_planes, picF_planes _ _, ?_⟩
      refine ⟨_, rfl, _, _, _, _, rfl, rfl, SqT.of (k4.tp _ _ ht), atI_nat (j := p) (map_at er1), ?_⟩
      refine ⟨_, rfl, _, _, _, _, rfl, rfl, SqT.of hu, atI_nat (j := 1) rfl, ?_⟩
      refine ⟨_, rfl, _, _, _, _, rfl, rfl, SqT.of hw4, atI_nat (j := 1) rfl, ?_⟩
      refine ⟨_, _, rfl, rfl, _, _, _, _, rfl, rfl, SqT.of (k4.tp _ _ ht1), atI_int (by show 0 ≤ c.2 - pic.up; omega) (map_at er2), ?_⟩
      refine ⟨_, rfl, ?_⟩
      refine ⟨_, rfl, _, _, _, _, rfl, rfl, SqT.of hu, atI_nat (j := 0) rfl, ?_⟩
      refine ⟨_, rfl, _, _, _, _, rfl, rfl, SqT.of hw4, atI_nat (j := 0) rfl, ?_⟩
      refine ⟨_, _, rfl, rfl, _, _, _, _, rfl, rfl, SqT.of (k4.tp _ _ hr2), atI_int (by show 0 ≤ c.1 - pic.left; omega) (map_at e3), ?_⟩
      have q := q _ k4
      rw [show val (Stg.source pic b :: (ss.take i).reverse) xx yy p = pic.at_ p c.1 c.2 by simp only [val, hb]] at q
      exact q
  | framed win b =>
    obtain ⟨wa, hs, hw⟩ := hsa
    obtain ⟨okb, wok, bok⟩ := ok
    refine ⟨_, rfl, _, _, _, _, rfl, rfl, SqT.of hs, atI_nat (j := 0) rfl, small2, fun tt htt => ⟨tt, sf, rfl, .inr (SqT.of upd_same), rfl, rfl, _, rfl, iteE sf_framed ?_⟩⟩
    have k1 := tt0 tt htt
    have hs1 := k1.tp _ _ hs
    refine ⟨_, rfl, _, _, _, _, rfl, rfl, SqT.of hs1, atI_nat (j := 0) rfl, rfl, _, rfl, iteD (fun z => absurd (V.str.inj z) (by decide +kernel)) fun _ => ?_⟩
    refine ⟨_, rfl, _, _, _, _, rfl, rfl, SqT.of hs1, atI_nat (j := 2) rfl, ?_⟩
    refine ⟨_, rfl, _, rfl, _, _, _, _, rfl, rfl, SqT.of hs1, (rfl : atI [V.str "framed", V.str of, V.ref wa, bdV b] (-1) = some (bdV b)), _, rfl, _, rfl, _, rfl, b, wa, win, xx, yy, rfl, k1.tp _ _ hw, wok, fun hb => ?_, fun c hb H3 u k3 hu => ?_⟩
    · refine ⟨_, rfl, rfl, _, rfl, iteT ?_⟩
      refine ⟨_, rfl, _, rfl, _, _, _, _, rfl, rfl, SqT.of hs1, (rfl : atI [V.str "framed", V.str of, V.ref wa, bdV b] (-1) = some (bdV b)), ?_⟩
      have q := q _ k1
      rw [show val (Stg.framed win b :: (ss.take i).reverse) xx yy p = b.n by simp only [val, hb]] at q
      obtain ⟨n', rfl⟩ := back_none hb
      exact q
    · have k4 := k1.tr k3
      have hs4 := k4.tp _ _ hs
      refine ⟨_, rfl, rfl, _, rfl, iteD (fun z => nomatch z) fun _ => ?_⟩
      refine ⟨_, rfl, _, _, _, _, rfl, rfl, SqT.of hs4, atI_nat (j := 0) rfl, rfl, _, rfl, iteD (fun z => absurd (V.str.inj z) (by decide +kernel)) fun _ => ?_⟩
      refine ⟨_, rfl, _, rfl, _, rfl, _, _, _, _, rfl, rfl, SqT.of hs4, atI_nat (j := 1) rfl, ?_⟩
      refine ⟨_, rfl, _, _, _, _, rfl, rfl, SqT.of hu, atI_nat (j := 0) rfl, ?_⟩
      refine ⟨_, rfl, _, _, _, _, rfl, rfl, SqT.of hu, atI_nat (j := 1) rfl, _, rfl, ?_⟩
      refine prev _ _ _ _ rfl k4 fun H5 k5 => ?_
      have q := q _ (k4.tr k5)
      rw [show val (Stg.framed win b :: (ss.take i).reverse) xx yy p = val (ss.take i).reverse c.1 c.2 p by simp only [val, hb]] at q
      exact q
  | moved a c =>
    have hs : H sa = some (.tup [.str "moved", .str of, .int a, .int c]) := hsa
    refine ⟨_, rfl, _, _, _, _, rfl, rfl, SqT.of hs, atI_nat (j := 0) rfl, small2, fun tt htt => ⟨tt, sf, rfl, .inr (SqT.of upd_same), rfl, rfl, _, rfl, iteNE sf_moved ?_⟩⟩
    have k1 := tt0 tt htt
    have hs1 := k1.tp _ _ hs
    refine ⟨_, rfl, _, _, _, _, rfl, rfl, SqT.of hs1, atI_nat (j := 0) rfl, rfl, _, rfl, iteD (fun _ => ?_) fun z => absurd rfl z⟩
    refine ⟨_, rfl, _, rfl, _, rfl, _, _, _, _, rfl, rfl, SqT.of hs1, atI_nat (j := 1) rfl, ?_⟩
    refine ⟨_, rfl, _, rfl, _, _, _, _, rfl, rfl, SqT.of hs1, atI_nat (j := 2) rfl, _, _, rfl, rfl, ?_⟩
    refine ⟨_, rfl, _, rfl, _, _, _, _, rfl, rfl, SqT.of hs1, atI_nat (j := 3) rfl, _, _, rfl, rfl, _, rfl, ?_⟩
    exact prev _ _ _ _ rfl k1 fun H2 k2 => q H2 (k1.tr k2)
  | flipped b =>
    have hs : H sa = some (.tup [.str "flipped", .str of, .bl b]) := hsa
    refine ⟨_, rfl, _, _, _, _, rfl, rfl, SqT.of hs, atI_nat (j := 0) rfl, small2, fun tt htt => ⟨tt, sf, rfl, .inr (SqT.of upd_same), rfl, rfl, _, rfl, iteNE sf_flipped ?_⟩⟩
    have k1 := tt0 tt htt
    have hs1 := k1.tp _ _ hs
    refine ⟨_, rfl, _, _, _, _, rfl, rfl, SqT.of hs1, atI_nat (j := 0) rfl, rfl, _, rfl, iteD (fun z => absurd (V.str.inj z) (by decide +kernel)) fun _ => ?_⟩
    refine ⟨_, rfl, _, _, _, _, rfl, rfl, SqT.of hs1, atI_nat (j := 0) rfl, rfl, _, rfl, iteD (fun _ => ?_) fun z => absurd rfl z⟩
    refine ⟨_, rfl, _, rfl, _, rfl, _, _, _, _, rfl, rfl, SqT.of hs1, atI_nat (j := 1) rfl, ?_⟩
    refine ⟨_, rfl, _, rfl, _, rfl, small2, fun l1 hl1 => ?_⟩
    have k2 := k1.tr (.new (o := .lst [.int xx, .int (-xx)]) hl1)
    have hs2 := k2.tp _ _ hs
    refine ⟨_, rfl, _, _, _, _, rfl, rfl, SqT.of hs2, atI_nat (j := 2) rfl, .inr ⟨b, rfl, ?_⟩⟩
    refine ⟨_, _, _, .int (if b = true then -xx else xx), rfl, rfl, SqL.of upd_same, (by cases b <;> rfl), ?_⟩
    refine ⟨_, rfl, _, rfl, _, rfl, small2, fun l2 hl2 => ?_⟩
    have k3 := k2.tr (.new (o := .lst [.int (-yy), .int yy]) hl2)
    have hs3 := k3.tp _ _ hs
    refine ⟨_, rfl, _, _, _, _, rfl, rfl, SqT.of hs3, atI_nat (j := 2) rfl, .inr ⟨b, rfl, ?_⟩⟩
    refine ⟨_, _, _, .int (if b = true then yy else -yy), rfl, rfl, SqL.of upd_same, (by cases b <;> rfl), _, rfl, ?_⟩
    refine prev _ _ _ _ rfl k3 fun H5 k5 => ?_
    have q := q _ (k3.tr k5)
    cases b with
    | true => exact q
    | false => exact q
  | turned =>
    have hs : H sa = some (.tup [.str "turned", .str of]) := hsa
    refine ⟨_, rfl, _, _, _, _, rfl, rfl, SqT.of hs, atI_nat (j := 0) rfl, small2, fun tt htt => ⟨tt, sf, rfl, .inr (SqT.of upd_same), rfl, rfl, _, rfl, iteNE sf_turned ?_⟩⟩
    have k1 := tt0 tt htt
    have hs1 := k1.tp _ _ hs
    refine ⟨_, rfl, _, _, _, _, rfl, rfl, SqT.of hs1, atI_nat (j := 0) rfl, rfl, _, rfl, iteD (fun z => absurd (V.str.inj z) (by decide +kernel)) fun _ => ?_⟩
    refine ⟨_, rfl, _, _, _, _, rfl, rfl, SqT.of hs1, atI_nat (j := 0) rfl, rfl, _, rfl, iteD (fun z => absurd (V.str.inj z) (by decide +kernel)) fun _ => ?_⟩
    refine ⟨_, rfl, _, _, _, _, rfl, rfl, SqT.of hs1, atI_nat (j := 0) rfl, rfl, _, rfl, iteD (fun _ => ?_) fun z => absurd rfl z⟩
    refine ⟨_, rfl, _, rfl, _, rfl, _, _, _, _, rfl, rfl, SqT.of hs1, atI_nat (j := 1) rfl, _, rfl, _, rfl, _, rfl, ?_⟩
    exact prev _ _ _ _ rfl k1 fun H5 k5 => q _ (k1.tr k5)
  | curved t dp =>
    obtain ⟨ta, hs, hta⟩ := hsa
    obtain ⟨d0, okb, tok⟩ := ok
    refine ⟨_, rfl, _, _, _, _, rfl, rfl, SqT.of hs, atI_nat (j := 0) rfl, small2, fun tt htt => ⟨tt, sf, rfl, .inr (SqT.of upd_same), rfl, rfl, _, rfl, iteNE sf_curved ?_⟩⟩
    have k1 := tt0 tt htt
    have hs1 := k1.tp _ _ hs
    refine ⟨_, rfl, _, _, _, _, rfl, rfl, SqT.of hs1, atI_nat (j := 0) rfl, rfl, _, rfl, iteD (fun z => absurd (V.str.inj z) (by decide +kernel)) fun _ => ?_⟩
    refine ⟨_, rfl, _, _, _, _, rfl, rfl, SqT.of hs1, atI_nat (j := 0) rfl, rfl, _, rfl, iteD (fun z => absurd (V.str.inj z) (by decide +kernel)) fun _ => ?_⟩
    refine ⟨_, rfl, _, _, _, _, rfl, rfl, SqT.of hs1, atI_nat (j := 0) rfl, rfl, _, rfl, iteD (fun z => absurd (V.str.inj z) (by decide +kernel)) fun _ => ?_⟩
    refine ⟨_, rfl, _, _, _, _, rfl, rfl, SqT.of hs1, atI_nat (j := 2) rfl, ?_⟩
    refine ⟨_, rfl, _, rfl, _, rfl, _, _, _, _, rfl, rfl, SqT.of hs1, atI_nat (j := 1) rfl, _, rfl, _, rfl, _, rfl, ?_⟩
    refine prev _ _ _ _ rfl k1 fun H5 k5 => ?_
    have b := val_le okb xx yy p hpn
    have k15 := k1.tr k5
    exact ⟨_, _, _, _, rfl, rfl, SqT.of (k15.tp _ _ hta), atI_int b.1 (map_at (Tab_at tok b.1 b.2)), q _ k15⟩
theorem at_step (X : Tx w K mg) {m0 k : Nat} (A : Hd P w K mg base k (He.ga K "_law_plain") (U (spLPlain K T) m0)) : Hd P w K mg base (k + 1) (He.ga K "_law_at") (U (spLPlain K T) m0) := by
  refine mk_hd X.F_law_at sc_law_at (fun _ _ _ _ ⟨_, _, _, _, _, _, _, _, _, _, _, _, _, e, _⟩ => by rw [e]; rfl) (fun cdv A' outer s H vs Q E hr h => ?_)
  obtain ⟨i, him, d, mm, kvs, nm, ss, x, xx, yy, p, n, dd, rfl, rest⟩ := h
  refine ⟨_, pss_one (ps_ret (pe_h A hr X.g_law_plain (pa_cons (pv 0) (pa_cons (pv 1) (pa_cons (pv 2) (pa_cons (pv 3) (pa_cons (pv 4) (pa_cons (pv 5) pa_nil)))))))), ?_⟩
  exact ⟨_, rfl, _, rfl, _, rfl, _, rfl, _, rfl, _, rfl, i, him, d, mm, kvs, nm, ss, x, xx, yy, p, n, dd, rfl, rest⟩
theorem ok_law_at (X : Tx w K mg) : ∀ m, Hd P w K mg base (4 * m + 1) (He.ga K "_law_at") (U (spLPlain K T) m)
  | 0 => mk_hd (k := 0) X.F_law_at sc_law_at (fun _ _ _ _ ⟨_, h, _⟩ => absurd h (Nat.not_lt_zero _)) (fun _ _ _ _ _ _ _ _ _ ⟨_, h, _⟩ => absurd h (Nat.not_lt_zero _))
  | m + 1 => (at_step X (plain_step X (ok_law_at X m))).mono (by omega)
end
end K9

set_option maxHeartbeats 4000000
namespace K9
open PySem PySem.Spec PyProof.Rows L2 NdefX LamX
section
variable {P : Program} {w : World} {K : PySem.W.Frag} {mg : Str → Option Value} {base : Heap} {T : List NTab}
abbrev lwN : List Str := ["_law_stages", "_law_name", "_law_window_here", "_law_planes_here", "_law_deep", "_law_west", "_law_north", "_law_broad", "_law_tall", "_law_memo", "_law_found", "_law_p", "_law_rows", "_law_y", "_law_x"]
def spLWhole (K : PySem.W.Frag) (T : List NTab) (i : Nat) : Sp := fun vs H Q _ => ∃ (d wa : Addr) (kvs : List (Key × V)) (nm : List Str) (ss : List Stg) (x : Str) (win : Win) (n : Nat) (dd : Int), vs = [.ref d, .str x, .ref wa] ∧ H d = some (.dK kvs) ∧ Stgs K H kvs nm ss ∧ nm[i]? = some x ∧ WinAt H wa win ∧ WinOk win ∧ ChOk (ss.take (i + 1)).reverse n dd ∧
  ∀ H' t, Kp T No H H' → PlanesAt H' t (grid win n fun u v p => val (ss.take (i + 1)).reverse u v p) → Q (.ref t) H'
theorem ok_law_whole (X : Tx w K mg) (m0 : Nat) : Hd P w K mg base (4 * m0 + 2) (He.ga K "_law_whole") (U (spLWhole K T) m0) := by
  refine mk_hd X.F_law_whole sc_law_whole (fun _ _ _ _ ⟨_, _, _, _, _, _, _, _, _, _, _, e, _⟩ => by rw [e]; rfl) (fun cdv A' outer s H vs Q E hr h => ?_)
  obtain ⟨i, him, d, wa, kvs, nm, ss, x, win, n, dd, rfl, hd, S, hx, hw, wok, ok, q⟩ := h
  have nd := sc_law_whole.nd
  refine ⟨_, pss_cons (ps_asg (pe_h (ok_law_shape (T := T) X m0) hr X.g_law_shape (pa_cons (pv 0) (pa_cons (pv 1) pa_nil))) (pg_tup rfl (pgs_cons (pg_name (i := 3) nd rfl (.inl rfl)) (pgs_cons (pg_name (i := 4) nd rfl (.inl rfl)) pgs_nil))))
    (pss_cons (ps_asg (pv 2) (pg_tup rfl (pgs_cons (pg_name (i := 5) nd rfl (.inl rfl)) (pgs_cons (pg_name (i := 6) nd rfl (.inl rfl)) (pgs_cons (pg_name (i := 7) nd rfl (.inl rfl)) (pgs_cons (pg_name (i := 8) nd rfl (.inl rfl)) pgs_nil))))))
    (pss_cons (ps_asg (pe_tup (pa_cons pe_dnewK (pa_cons (pe_lst pa_nil) pa_nil))) (pg_tup rfl (pgs_cons (pg_name (i := 9) nd rfl (.inr rfl)) (pgs_cons (pg_name (i := 10) nd rfl (.inl rfl)) pgs_nil))))
    (pss_cons (ps_for PassesOwn.never rfl (pi_range1 rfl X.f_range (pa_cons (pv 3) pa_nil)) (pg_name (i := 11) nd rfl (.inr rfl))
      (pss_cons (ps_set (i := 12) nd rfl (.inl rfl) (pe_lst pa_nil))
      (pss_cons (ps_for PassesOwn.never rfl (pi_range2 rfl X.f_range (pa_cons (pv 6) (pa_cons (pe_op op_add (pv 6) (pv 8)) pa_nil))) (pg_name (i := 13) nd rfl (.inr rfl))
        (pss_one (ps_expr (pe_bm PySem.F.plainAttrs_list PySem.F.slot_list_append PySem.F.type_list_append mt_append (pv 12) (pa_cons (pe_tuple X.f_tuple (pe_lc (own := [("_law_x", 14)]) (g := gName 14) (by rfl) nd (pi_range2 rfl X.f_range (pa_cons (pv 5) (pa_cons (pe_op op_add (pv 5) (pv 7)) pa_nil))) (blkOk_by (N := lwN) (sc := defScope s_law_whole) (by decide +kernel))
          (fun _ _ _ _ _ => pg_name (i := 14) nd rfl (Or.inl rfl)) (fun _ _ _ _ _ => pts_nil) (fun _ _ _ _ _ => pe_h (ok_law_at (T := T) X m0) hr X.g_law_at (pa_cons (pv 0) (pa_cons (pv 9) (pa_cons (pv 1) (pa_cons (pv 14) (pa_cons (pv 13) (pa_cons (pv 11) pa_nil))))))))) pa_nil)))))
      (pss_one (ps_expr (pe_bm PySem.F.plainAttrs_list PySem.F.slot_list_append PySem.F.type_list_append mt_append (pv 10) (pa_cons (pe_tuple X.f_tuple (pv 12)) pa_nil)))))))
    (pss_one (ps_ret (pe_tuple X.f_tuple (pv 10))))))), ?_⟩
  have pn := ChOk.planes ok
  have o1 := wok.ol
  have o2 := wok.ou
  have o3 := wok.ow
  have o4 := wok.oh
  refine ⟨_, rfl, _, rfl, i, him, d, kvs, nm, ss, x, n, dd, rfl, hd, S, hx, ok, fun H1 sh k1 h1 => ?_⟩
  refine ⟨sh, _, rfl, SqT.of h1, rfl, _, _, rfl, _, _, rfl, rfl, ?_⟩
  refine ⟨_, rfl, wa, _, rfl, SqT.of (k1.tp _ _ hw), rfl, _, _, rfl, _, _, rfl, _, _, rfl, _, _, rfl, rfl, ?_⟩
  refine fun mm hmm => ⟨Nat.zero_le _, fun fd hfd => ⟨small2, fun tt htt => ?_⟩⟩
  have ka := k1.tr (.new (o := .dK []) hmm)
  have kf : Kp T No _ _ := .new (o := .lst []) hfd
  have k3 : Kp T No _ _ := .new (o := .tup [.ref mm, .ref fd]) htt
  have hfd3 := k3.lst upd_same id
  refine ⟨tt, _, rfl, SqT.of upd_same, rfl, _, _, rfl, _, _, rfl, rfl, ?_⟩
  generalize hH3 : upd _ tt (HO.tup [.ref mm, .ref fd]) = H3 at k3 hfd3
  have kf3 := kf.tr k3
  have tot : ∀ {H4 : Hp}, Kp T (On fd) H3 H4 → Kp T No H H4 := fun k4 => ka.tr ((kf3.any.tr k4).own hfd)
  refine ⟨_, rfl, (n : Int), rfl, by omega, by omega, ?_⟩
  refine for_range (lo := 0) (n := n) (fun p σ H' => ∃ (pv rv yv : Option V) (fs : List Addr), σ = [some (.ref d), some (.str x), some (.ref wa), some (.int n), some (.int dd), some (.int win.l), some (.int win.u), some (.int win.w), some (.int win.h), some (.ref mm), some (.ref fd), pv, rv, yv, none] ∧ Kp T (On fd) H3 H' ∧ H' fd = some (.lst (fs.map V.ref)) ∧ All2 (PlaneAt H') fs ((List.range p).map fun p => planeOf win (fun u v p => val (ss.take (i + 1)).reverse u v p) p)) ?_ (fun p σ H4 hp hv => ?_) fun σ H4 hv => ?_
  · exact ⟨none, none, none, [], rfl, .refl, hfd3, ⟨rfl, fun i a x e => by simp at e⟩⟩
  · obtain ⟨pv, rv, yv, fs, rfl, k4, hf4, hfs⟩ := hv
    rw [Int.zero_add]
    refine ⟨Nat.zero_le _, fun rs hrs => ?_⟩
    have kr : Kp T No H4 (upd H4 rs (.lst [])) := .new hrs
    have rsf : fd ≠ rs := ne_of_none hf4 hrs
    refine ⟨_, rfl, _, rfl, _, rfl, _, _, rfl, rfl, _, _, rfl, ⟨by omega, by omega, by omega, by omega⟩, ?_⟩
    refine for_range (lo := win.u) (n := (win.u + win.h - win.u).toNat) (fun j σ H' => ∃ (yv : Option V) (rr : List Addr), σ = [some (.ref d), some (.str x), some (.ref wa), some (.int n), some (.int dd), some (.int win.l), some (.int win.u), some (.int win.w), some (.int win.h), some (.ref mm), some (.ref fd), some (.int p), some (.ref rs), yv, none] ∧ Kp T (On rs) H4 H' ∧ H' rs = some (.lst (rr.map V.ref)) ∧ All2 (RowAt H') rr ((List.range j).map fun j => rowOf win (fun u v p => val (ss.take (i + 1)).reverse u v p) p j)) ?_ (fun j σ H5 hj hv => ?_) fun σ H5 hv => ?_
    · exact ⟨yv, [], rfl, kr.any, upd_same, ⟨rfl, fun i a x e => by simp at e⟩⟩
    · obtain ⟨yv, rr, rfl, k5, hr5, hrr⟩ := hv
      have k45 : Kp T No H4 H5 := k5.own hrs
      have k15 : Kp T No H H5 := (tot k4).tr k45
      refine ⟨_, rfl, .inl ⟨rfl, _, SqL.of hr5⟩, ?_⟩
      refine ⟨_, rfl, _, rfl, _, rfl, _, _, rfl, rfl, _, _, rfl, ⟨by omega, by omega, by omega, by omega⟩, fun D hD => lc_mapR (T := T) (M := No) (lo := win.l) (n := (win.l + win.w - win.l).toNat) (R := fun i' v _ => v = .int (val (ss.take (i + 1)).reverse (win.l + (i' : Int)) (win.u + (j : Int)) p)) (G := G0) hD True.intro (fun i' H6 hi' p6 => ?_) fun H6 acc k6 e6 el6 ha6 _ => ⟨D, acc, rfl, e6, fun t ht => ?_⟩⟩
      · have k16 := k15.tr p6.kp
        refine ⟨rfl, ?_⟩
        refine ⟨_, rfl, _, rfl, _, rfl, _, rfl, _, rfl, _, rfl, i, him, d, .ref mm, kvs, nm, ss, x, _, _, p, n, dd, rfl, k16.dK hd id, S.kp k16 NoPic.no, hx, ok, hp, fun H7 k7 => ?_⟩
        exact p6.next Tst.pure id hD k7 (line_big (by omega)) rfl fun _ => True.intro
      · have el : acc.length = win.w.toNat := by omega
        have er : acc = (rowOf win (fun u v p => val (ss.take (i + 1)).reverse u v p) p j).map V.int := by
          unfold rowOf
          rw [List.map_map]
          refine acc_map (by rw [el, List.length_range]) fun i' v x' e1 e2 => ?_
          have hx' : x' = i' := by
            obtain ⟨h1, h2⟩ := List.getElem?_eq_some_iff.mp e2
            rw [List.getElem_range] at h2
            exact h2.symm
          rw [hx']
          exact ha6 i' v e1
        have kt := Kp.new (T := T) (M := No) (o := .tup acc) ht
        have hr6 := (k6.tr kt).lst hr5 id
        refine ⟨rs, _, _, rfl, rfl, hr6, line_big (by rw [List.length_map, hrr.len, List.length_map, List.length_range]; omega), ?_⟩
        have k8 := Kp.put (T := T) (o' := .lst (rr.map V.ref ++ [.ref t])) hr6 True.intro
        have tk : TupK H5 _ := fun bb ys e => k8.tp bb ys (kt.tp bb ys (k6.tp bb ys e))
        refine ⟨_, rr ++ [t], rfl, (k5.trN (k6.tr kt)).tr k8, by rw [List.map_append]; exact upd_same, ?_⟩
        rw [List.range_succ, List.map_append]
        refine (hrr.mono fun a x z => tk _ _ z).snoc (k8.tp _ _ ?_)
        rw [← er]
        exact upd_same
    · obtain ⟨yv, rr, rfl, k5, hr5, hrr⟩ := hv
      have k45 : Kp T No H4 H5 := k5.own hrs
      have hf5 := k45.lst hf4 id
      refine ⟨_, rfl, .inl ⟨rfl, _, SqL.of hf5⟩, _, rfl, rs, _, rfl, hr5, fun t ht => ?_⟩
      have kt := Kp.new (T := T) (M := No) (o := .tup (rr.map V.ref)) ht
      have hf6 := kt.lst hf5 id
      refine ⟨fd, _, _, rfl, rfl, hf6, line_big (by rw [List.length_map, hfs.len, List.length_map, List.length_range]; omega), ?_⟩
      have k8 := Kp.put (T := T) (o' := .lst (fs.map V.ref ++ [.ref t])) hf6 True.intro
      have tk5 : TupK H5 _ := fun bb ys e => k8.tp bb ys (kt.tp bb ys e)
      have tk : TupK H4 _ := fun bb ys e => tk5 bb ys (k45.tp bb ys e)
      refine ⟨_, _, _, fs ++ [t], rfl, (k4.trN (k45.tr kt)).tr k8, by rw [List.map_append]; exact upd_same, ?_⟩
      rw [List.range_succ, List.map_append]
      refine (hfs.mono fun a x z => z.keep tk).snoc ⟨rr, k8.tp _ _ upd_same, ?_⟩
      have en : (win.u + win.h - win.u).toNat = win.h.toNat := by congr 1; omega
      rw [en] at hrr
      exact hrr.mono fun a x z => tk5 _ _ z
  · obtain ⟨pv, rv, yv, fs, rfl, k4, hf4, hfs⟩ := hv
    refine ⟨_, rfl, fd, _, rfl, hf4, fun t ht => ?_⟩
    have kt := Kp.new (T := T) (M := No) (o := .tup (fs.map V.ref)) ht
    exact q _ t ((tot k4).tr kt) ⟨fs, upd_same, hfs.mono fun a x z => z.keep kt.tp⟩
end
end K9

set_option maxHeartbeats 4000000
namespace K9
open PySem PySem.Spec PyProof.Rows L2 NdefX LamX RZ
/-- the promise one depth below; below the first: never asked -/
def prevS (sp : Nat → Sp) : Nat → Sp
  | 0 => fun _ _ _ _ => False
  | i + 1 => sp i
/-- the same data, to a depth -/
def Sm (H : Hp) : Nat → V → V → Prop
  | 0, v, w => ∃ i : Int, v = .int i ∧ w = .int i
  | k + 1, v, w => (∃ i : Int, v = .int i ∧ w = .int i) ∨ (∃ (a b : Addr) (xs ys : List V), v = .ref a ∧ w = .ref b ∧ xs.length = ys.length ∧ xs.length ≤ 70000 ∧ (∀ (j : Nat) (x y : V), xs[j]? = some x → ys[j]? = some y → Sm H k x y) ∧
      ((H a = some (.tup xs) ∧ H b = some (.tup ys)) ∨ (H a = some (.lst xs) ∧ H b = some (.lst ys))))
theorem Sm.kn {T : List NTab} {H H' : Hp} (kp : Kp T No H H') : ∀ {k : Nat} {v w : V}, Sm H k v w → Sm H' k v w
  | 0, _, _, h => h
  | k + 1, _, _, h => h.imp id fun ⟨a, b, xs, ys, e1, e2, l, l2, h, r⟩ => ⟨a, b, xs, ys, e1, e2, l, l2, fun j x y ex ey => (h j x y ex ey).kn kp, r.imp (fun ⟨p, q⟩ => ⟨kp.tp _ _ p, kp.tp _ _ q⟩) fun ⟨p, q⟩ => ⟨kp.lst p id, kp.lst q id⟩⟩
theorem k_ibo : kitB "int" "bool" = some false := by decide +kernel
theorem k_tb : kitB "tuple" "bool" = some false := by decide +kernel
theorem k_lb : kitB "list" "bool" = some false := by decide +kernel
theorem k_it : kitB "int" "tuple" = some false := by decide +kernel
theorem k_il : kitB "int" "list" = some false := by decide +kernel
theorem k_tl : kitB "tuple" "list" = some false := by decide +kernel
theorem k_lt : kitB "list" "tuple" = some false := by decide +kernel
theorem k_ll : kitB "list" "list" = some true := by decide +kernel
theorem kit2 {K : PySem.W.Frag} {t : String} {b1 b2 : Bool} (h1 : kitB t "tuple" = some b1) (h2 : kitB t "list" = some b2) : PySem.W.kitAny K (.type t) [.type "tuple", .type "list"] = some (b1 || b2) := by
  refine kitAny_cons (kit_ty h1) (fun e => ?_) fun e => by rw [e]; rfl
  rw [e, Bool.false_or]
  exact kitAny_cons (kit_ty h2) (fun e => by rw [e]; exact kitAny_nil) id
section
variable {P : Program} {w : World} {K : PySem.W.Frag} {mg : Str → Option Value} {base : Heap} {T : List NTab}
/-- a comprehension over a zip of two lists, of two tuples -/
theorem lc_mapZ {R : Nat → V → Hp → Prop} {g : TG} {tt : TT} {te : TE} {vs : List Nat} {σ : L2.St} {H1 : Hp} {D : Addr} {Qd : Hp → Prop} {J : It} {xs ys : List V} (stb : Tst R) (hl : xs.length = ys.length) (hD : H1 D = none)
    (hgo : ∀ i H, Kp T No H1 H → i < xs.length → J.go i H) (hst : ∀ H, Kp T No H1 H → J.stop xs.length H) (hy : ∀ i H v H', Kp T No H1 H → J.yld i H v H' → ∃ t x y, v = .ref t ∧ H t = none ∧ H' = upd H t (.tup [x, y]) ∧ xs[i]? = some x ∧ ys[i]? = some y)
    (hs : ∀ i t x y H, xs[i]? = some x → ys[i]? = some y → H t = some (.tup [x, y]) → LcP T No R G0 H1 D i H → LcT T No R G0 g tt te vs σ H1 D i (.ref t) H) (hd : LcD T No R G0 H1 D xs.length Qd) : LcW J g tt te vs σ H1 D Qd := by
  refine ⟨fun i m H => m = xs.length - i ∧ i ≤ xs.length ∧ LcP T No R G0 H1 D i H, ⟨_, rfl, Nat.zero_le _, LcP.start hD True.intro⟩, ?_⟩
  rintro i m H ⟨rfl, hi, p⟩
  rcases Nat.lt_or_ge i xs.length with lt | ge
  · refine .inr ⟨hgo i H p.kp lt, LcP T No R G0 H1 D (i + 1), fun H' p' => ⟨xs.length - (i + 1), by omega, rfl, lt, p'⟩, fun v H' yy => ?_⟩
    obtain ⟨t, x, y, rfl, ht, rfl, hx, hy'⟩ := hy i H v H' p.kp yy
    have kt := Kp.new (T := T) (M := No) (o := .tup [x, y]) ht
    obtain ⟨acc, e, el, h⟩ := p.acc
    exact hs i t x y _ hx hy' upd_same ⟨p.kp.tr kt, ⟨acc, kt.lst e id, el, fun j v q => stb j v _ _ kt.tp (h j v q)⟩, True.intro⟩
  · obtain rfl : i = xs.length := Nat.le_antisymm hi ge
    obtain ⟨acc, e, el, h⟩ := p.acc
    exact .inl ⟨hst H p.kp, hd H acc p.kp e el h True.intro⟩
abbrev smN : List Str := ["_law_found", "_law_due", "_law_one", "_law_other"]
def spSame (T : List NTab) (k : Nat) : Sp := fun vs H Q _ => ∃ v w, vs = [v, w] ∧ Sm H k v w ∧ ∀ H', Kp T No H H' → Q (.bl true) H'
theorem same_step (X : Tx w K mg) {k lv : Nat} (A : Hd P w K mg base lv (He.ga K "_law_same") (prevS (spSame T) k)) : Hd P w K mg base (lv + 1) (He.ga K "_law_same") (spSame T k) := by
  refine mk_hd X.F_law_same sc_law_same (fun _ _ _ _ ⟨_, _, e, _⟩ => by rw [e]; rfl) (fun cdv A' outer s H vs Q E hr h => ?_)
  obtain ⟨v, u, rfl, hsm, q⟩ := h
  have nd := sc_law_same.nd
  refine ⟨_, pss_cons (ps_if (PW.pt (pw_or (pt_val (pe_is X.f_isinstance X.f_bool (pv 1) bb_bool)) (pw_or1 (pt_val (pe_is X.f_isinstance X.f_bool (pv 0) bb_bool))))) (pss_one ps_never) pss_nil)
    (pss_cons (ps_if (PW.pt (pw_or (pt_cmpR op_isN (pv 1) pe_non (nomark _)) (pw_or1 (pt_cmpR op_isN (pv 0) pe_non (nomark _))))) (pss_one ps_never) pss_nil)
    (pss_cons (ps_if (pt_val (pe_callB call_isiT (by rfl) X.f_isinstance PyProof.Rows.boot_isinstance (pa_cons (pv 1) (pa_cons (pe_tup (pa_cons (pe_bltn (v := .ty "tuple") (by rfl) X.f_tuple bb_tuple rfl) (pa_cons (pe_bltn (v := .ty "list") (by rfl) X.f_list bb_list rfl) pa_nil))) pa_nil))))
      (pss_cons (ps_if (PW.pt (pw_or (pt_cmpR op_ne (pe_is X.f_isinstance X.f_tuple (pv 0) bb_tuple) (pe_is X.f_isinstance X.f_tuple (pv 1) bb_tuple) (nomark _)) (pw_or1 (pt_cmpR op_ne (pe_is X.f_isinstance X.f_list (pv 0) bb_list) (pe_is X.f_isinstance X.f_list (pv 1) bb_list) (nomark _))))) (pss_one (ps_ret pe_bl)) pss_nil)
      (pss_one (ps_ret (pe_and (pe_cmpR op_eq (pe_callB call_len_seq (by rfl) X.f_len bb_len (pa_cons (pv 0) pa_nil)) (pe_callB call_len_seq (by rfl) X.f_len bb_len (pa_cons (pv 1) pa_nil)) (nomark _)) (pe_one (pe_callB (cr_all rfl) (by rfl) X.f_all bb_all (pa_cons (pe_lc (own := [("_law_one", 2), ("_law_other", 3)]) (g := gTup K 2 _) (by rfl) nd (pi_zipA (by rfl) X.f_zip (pa_cons (pv 0) (pa_cons (pv 1) pa_nil))) (blkOk_by (N := smN) (sc := defScope s_law_same) (by decide +kernel))
        (fun _ _ _ _ _ => pg_tup rfl (pgs_cons (pg_name (i := 2) nd rfl (.inl rfl)) (pgs_cons (pg_name (i := 3) nd rfl (.inl rfl)) pgs_nil))) (fun _ _ _ _ _ => pts_nil) (fun _ _ _ _ _ => pe_h A hr X.g_law_same (pa_cons (pv 2) (pa_cons (pv 3) pa_nil)))) pa_nil))))))) pss_nil)
    (pss_cons (ps_if (PW.pt (pw_or (pt_cmpR op_ne (pe_is X.f_isinstance X.f_int (pv 1) bb_int) (pe_is X.f_isinstance X.f_int (pv 0) bb_int) (nomark _)) (pw_or1 (pt_cmpR op_ne (pe_is X.f_isinstance X.f_str (pv 1) bb_str) (pe_is X.f_isinstance X.f_str (pv 0) bb_str) (nomark _))))) (pss_one (ps_ret pe_bl)) pss_nil)
    (pss_one (ps_ret (pe_cmpR op_eq (pv 0) (pv 1) (nomark _))))))), ?_⟩
  have c3 : (∃ i : Int, v = .int i ∧ u = .int i) ∨ ∃ k', k = k' + 1 ∧ ∃ (a b : Addr) (xs ys : List V), v = .ref a ∧ u = .ref b ∧ xs.length = ys.length ∧ xs.length ≤ 70000 ∧ (∀ (j : Nat) (x y : V), xs[j]? = some x → ys[j]? = some y → Sm H k' x y) ∧ ((H a = some (.tup xs) ∧ H b = some (.tup ys)) ∨ (H a = some (.lst xs) ∧ H b = some (.lst ys))) := by
    cases k with
    | zero => exact .inl hsm
    | succ k => exact hsm.imp id fun h => ⟨k, rfl, h⟩
  rcases c3 with ⟨i, rfl, rfl⟩ | ⟨k', rfl, a, b, xs, ys, rfl, rfl, hlen, hsz, hit, hseq⟩
  · refine ⟨_, rfl, isi (ty_int i) k_ibo ⟨_, rfl, iteF ⟨_, rfl, isi (ty_int i) k_ibo ⟨_, rfl, iteF ?_⟩⟩⟩⟩
    refine ⟨_, rfl, rfl, _, rfl, iteD (fun z => nomatch z) fun _ => ⟨_, rfl, rfl, _, rfl, iteD (fun z => nomatch z) fun _ => ?_⟩⟩
    refine ⟨_, rfl, small2, fun tp htp => ⟨.int i, tp, _, .type "int", [.type "tuple", .type "list"], false, rfl, upd_same, .cons (.ty _) (.cons (.ty _) .nil), ty_int i, kit2 k_it k_il, _, rfl, iteF ?_⟩⟩
    refine ⟨_, rfl, isi (ty_int i) k_ii ⟨_, rfl, isi (ty_int i) k_ii ⟨rfl, _, rfl, iteN (fun z => absurd rfl z) fun _ => ⟨_, rfl, isi (ty_int i) k_is ⟨_, rfl, isi (ty_int i) k_is ⟨rfl, _, rfl, iteN (fun z => absurd rfl z) fun _ => ?_⟩⟩⟩⟩⟩⟩
    exact ⟨_, rfl, _, rfl, rfl, qb (q _ (.new htp)) (decide_eq_true rfl)⟩
  · have ex : ∃ (t : String) (bt bl : Bool), kitB t "bool" = some false ∧ kitB t "tuple" = some bt ∧ kitB t "list" = some bl ∧ (bt || bl) = true ∧ ∀ H1, Kp T No H H1 → TyX K H1 (.ref a) (.type t) ∧ TyX K H1 (.ref b) (.type t) := by
      rcases hseq with ⟨h1, h2⟩ | ⟨h1, h2⟩
      · exact ⟨"tuple", true, false, k_tb, k_tt, k_tl, rfl, fun H1 k1 => ⟨ty_tup (k1.tp _ _ h1), ty_tup (k1.tp _ _ h2)⟩⟩
      · exact ⟨"list", false, true, k_lb, k_lt, k_ll, rfl, fun H1 k1 => ⟨ty_lst (k1.lst h1 id), ty_lst (k1.lst h2 id)⟩⟩
    obtain ⟨t, bt, bl, kb, kt, kl, kor, ty⟩ := ex
    have t0 := ty H .refl
    refine ⟨_, rfl, isi t0.2 kb ⟨_, rfl, iteF ⟨_, rfl, isi t0.1 kb ⟨_, rfl, iteF ?_⟩⟩⟩⟩
    refine ⟨_, rfl, rfl, _, rfl, iteD (fun z => nomatch z) fun _ => ⟨_, rfl, rfl, _, rfl, iteD (fun z => nomatch z) fun _ => ?_⟩⟩
    refine ⟨_, rfl, small2, fun tp htp => ⟨.ref b, tp, _, .type t, [.type "tuple", .type "list"], true, rfl, upd_same, .cons (.ty _) (.cons (.ty _) .nil), (ty _ (.new htp)).2, by rw [← kor]; exact kit2 kt kl, _, rfl, iteT ?_⟩⟩
    have k1 : Kp T No H (upd H tp (.tup [.ty "tuple", .ty "list"])) := .new htp
    generalize hH1 : upd H tp (.tup [.ty "tuple", .ty "list"]) = H1 at k1
    have t1 := ty H1 k1
    refine ⟨_, rfl, isi t1.1 kt ⟨_, rfl, isi t1.2 kt ⟨rfl, _, rfl, iteN (fun z => absurd rfl z) fun _ => ⟨_, rfl, isi t1.1 kl ⟨_, rfl, isi t1.2 kl ⟨rfl, _, rfl, iteN (fun z => absurd rfl z) fun _ => ?_⟩⟩⟩⟩⟩⟩
    have seq1 : (SqL K H1 a xs ∧ SqL K H1 b ys) ∨ (SqT K H1 a xs ∧ SqT K H1 b ys) := by
      rcases hseq with ⟨h1, h2⟩ | ⟨h1, h2⟩
      · exact .inr ⟨SqT.of (k1.tp _ _ h1), SqT.of (k1.tp _ _ h2)⟩
      · exact .inl ⟨SqL.of (k1.lst h1 id), SqL.of (k1.lst h2 id)⟩
    have sqa : SqL K H1 a xs ∨ SqT K H1 a xs := seq1.imp (·.1) (·.1)
    have sqb : SqL K H1 b ys ∨ SqT K H1 b ys := seq1.imp (·.2) (·.2)
    refine ⟨_, rfl, _, _, rfl, sqa, _, rfl, _, _, rfl, sqb, rfl, _, rfl, iteD (fun _ => ?_) fun z => absurd (show V.int (xs.length : Int) = V.int (ys.length : Int) by rw [hlen]) z⟩
    rcases hseq with ⟨h1, h2⟩ | ⟨h1, h2⟩
    · have sq : ∀ H5, Kp T No H1 H5 → SqT K H5 a xs ∧ SqT K H5 b ys := fun H5 k5 => ⟨SqT.of ((k1.tr k5).tp _ _ h1), SqT.of ((k1.tr k5).tp _ _ h2)⟩
      refine ⟨_, rfl, _, rfl, a, b, xs, ys, rfl, .inr ⟨(sq H1 .refl).1, (sq H1 .refl).2, fun D hD => lc_mapZ (T := T) (R := RT) Tst.rt hlen hD (fun i H5 k5 hi => ⟨xs, ys, _, _, (sq H5 k5).1, (sq H5 k5).2, List.getElem?_eq_getElem hi, List.getElem?_eq_getElem (by omega)⟩) (fun H5 k5 => ⟨xs, ys, (sq H5 k5).1, (sq H5 k5).2, .inl (Nat.le_refl _)⟩)
        (fun i H5 v H6 k5 ⟨t, x, y, e1, e2, e3, e4, e5⟩ => ⟨t, x, y, e1, e2, e3, e4 xs (sq H5 k5).1, e5 ys (sq H5 k5).2⟩) (fun j t x y H5 ex ey ht p5 => ?_) fun H5 acc k5 e5 el5 ha5 _ => all_of e5 ha5 (q _ (k1.tr k5))⟩⟩
      refine ⟨t, _, rfl, SqT.of ht, rfl, _, _, rfl, _, _, rfl, rfl, ?_⟩
      refine ⟨rfl, _, rfl, _, rfl, x, y, rfl, (hit j x y ex ey).kn (k1.tr p5.kp), fun H6 k6 => ?_⟩
      refine p5.next Tst.rt id hD k6 (line_big ?_) rfl fun _ => True.intro
      have := (List.getElem?_eq_some_iff.mp ex).1
      omega
    · have sq : ∀ H5, Kp T No H1 H5 → SqL K H5 a xs ∧ SqL K H5 b ys := fun H5 k5 => ⟨SqL.of ((k1.tr k5).lst h1 id), SqL.of ((k1.tr k5).lst h2 id)⟩
      refine ⟨_, rfl, _, rfl, a, b, xs, ys, rfl, .inl ⟨(sq H1 .refl).1, (sq H1 .refl).2, fun D hD => lc_mapZ (T := T) (R := RT) Tst.rt hlen hD (fun i H5 k5 hi => ⟨xs, ys, _, _, (sq H5 k5).1, (sq H5 k5).2, List.getElem?_eq_getElem hi, List.getElem?_eq_getElem (by omega)⟩) (fun H5 k5 => ⟨xs, ys, (sq H5 k5).1, (sq H5 k5).2, .inl (Nat.le_refl _)⟩)
        (fun i H5 v H6 k5 ⟨t, x, y, e1, e2, e3, e4, e5⟩ => ⟨t, x, y, e1, e2, e3, e4 xs (sq H5 k5).1, e5 ys (sq H5 k5).2⟩) (fun j t x y H5 ex ey ht p5 => ?_) fun H5 acc k5 e5 el5 ha5 _ => all_of e5 ha5 (q _ (k1.tr k5))⟩⟩
      refine ⟨t, _, rfl, SqT.of ht, rfl, _, _, rfl, _, _, rfl, rfl, ?_⟩
      refine ⟨rfl, _, rfl, _, rfl, x, y, rfl, (hit j x y ex ey).kn (k1.tr p5.kp), fun H6 k6 => ?_⟩
      refine p5.next Tst.rt id hD k6 (line_big ?_) rfl fun _ => True.intro
      have := (List.getElem?_eq_some_iff.mp ex).1
      omega
theorem ok_same (X : Tx w K mg) : ∀ k, Hd P w K mg base (k + 2) (He.ga K "_law_same") (spSame T k)
  | 0 => same_step X (mk_hd (k := 0) X.F_law_same sc_law_same (fun _ _ _ _ h => h.elim) (fun _ _ _ _ _ _ _ _ _ h => h.elim))
  | k + 1 => same_step X (ok_same X k)
end
end K9

set_option maxHeartbeats 4000000
namespace K9
open PySem PySem.Spec PyProof.Rows L2 NdefX LamX
theorem Sm.ofInts {H : Hp} {a b : Addr} {row : List Int} (h1 : RowAt H a row) (h2 : RowAt H b row) (hl : row.length ≤ 70000) : Sm H 1 (.ref a) (.ref b) := by
  refine .inr ⟨a, b, _, _, rfl, rfl, rfl, by rw [List.length_map]; exact hl, fun j x y e1 e2 => ?_, .inl ⟨h1, h2⟩⟩
  obtain ⟨n, _, rfl⟩ := nth_int e1
  rw [e1] at e2
  exact ⟨n, rfl, (Option.some.inj e2).symm⟩
theorem Sm.ofPlane {H : Hp} {a b : Addr} {pl : List (List Int)} (h1 : PlaneAt H a pl) (h2 : PlaneAt H b pl) (hl : pl.length ≤ 70000) (hr : ∀ row ∈ pl, row.length ≤ 70000) : Sm H 2 (.ref a) (.ref b) := by
  obtain ⟨rs, e1, q1⟩ := h1
  obtain ⟨ts, e2, q2⟩ := h2
  refine .inr ⟨a, b, _, _, rfl, rfl, by rw [List.length_map, List.length_map, q1.len, q2.len], by rw [List.length_map, q1.len]; exact hl, fun j x y ex ey => ?_, .inl ⟨e1, e2⟩⟩
  have hj : j < pl.length := by
    have := (List.getElem?_eq_some_iff.mp ex).1
    rw [List.length_map, q1.len] at this
    exact this
  obtain ⟨r, er, fr⟩ := q1.get (List.getElem?_eq_getElem hj)
  obtain ⟨t, et, ft⟩ := q2.get (List.getElem?_eq_getElem hj)
  rw [map_at er] at ex
  rw [map_at et] at ey
  rw [← Option.some.inj ex, ← Option.some.inj ey]
  exact Sm.ofInts fr ft (hr _ (List.getElem_mem hj))
theorem Sm.ofPlanes {H : Hp} {a b : Addr} {ps : List (List (List Int))} (h1 : PlanesAt H a ps) (h2 : PlanesAt H b ps) (hl : ps.length ≤ 70000) (hp : ∀ pl ∈ ps, pl.length ≤ 70000) (hr : ∀ pl ∈ ps, ∀ row ∈ pl, row.length ≤ 70000) : Sm H 3 (.ref a) (.ref b) := by
  obtain ⟨rs, e1, q1⟩ := h1
  obtain ⟨ts, e2, q2⟩ := h2
  refine .inr ⟨a, b, _, _, rfl, rfl, by rw [List.length_map, List.length_map, q1.len, q2.len], by rw [List.length_map, q1.len]; exact hl, fun j x y ex ey => ?_, .inl ⟨e1, e2⟩⟩
  have hj : j < ps.length := by
    have := (List.getElem?_eq_some_iff.mp ex).1
    rw [List.length_map, q1.len] at this
    exact this
  obtain ⟨r, er, fr⟩ := q1.get (List.getElem?_eq_getElem hj)
  obtain ⟨t, et, ft⟩ := q2.get (List.getElem?_eq_getElem hj)
  rw [map_at er] at ex
  rw [map_at et] at ey
  rw [← Option.some.inj ex, ← Option.some.inj ey]
  exact Sm.ofPlane fr ft (hp _ (List.getElem_mem hj)) (hr _ (List.getElem_mem hj))
theorem Sm.int {H : Hp} (i : Int) : ∀ k, Sm H k (.int i) (.int i)
  | 0 => ⟨i, rfl, rfl⟩
  | k + 1 => .inl ⟨i, rfl, rfl⟩
theorem acc_ints {F : Int → Prop} : ∀ {acc : List V}, (∀ (j : Nat) v, acc[j]? = some v → ∃ n : Int, v = .int n ∧ F n) → ∃ ns : List Int, acc = ns.map V.int ∧ ∀ n ∈ ns, F n := fun {acc} => by
  induction acc with
  | nil => exact fun _ => ⟨[], rfl, fun n h => nomatch h⟩
  | cons a acc ih =>
    intro h
    obtain ⟨n, rfl, f⟩ := h 0 a rfl
    obtain ⟨ns, rfl, g⟩ := ih fun j v e => h (j + 1) v e
    refine ⟨n :: ns, rfl, fun m hm => ?_⟩
    rcases List.mem_cons.mp hm with z | z
    · rw [z]; exact f
    · exact g m z
section
variable {P : Program} {w : World} {K : PySem.W.Frag} {mg : Str → Option Value} {base : Heap} {T : List NTab}
def spSeen (K : PySem.W.Frag) (T : List NTab) (i : Nat) : Sp := fun vs H Q _ => ∃ (na d wa : Addr) (kvs : List (Key × V)) (nm : List Str) (ss : List Stg) (x : Str) (win : Win), vs = [.ref na, .ref d, .str x, .ref wa] ∧ NetO K H na nm ss ∧ H d = some (.dK kvs) ∧ Stgs K H kvs nm ss ∧ TabsN T H ∧ nm[i]? = some x ∧ WinAt H wa win ∧ WinOk win ∧ ∀ H', Kp T No H H' → Q (.bl true) H'
theorem ok_seen (X : Tx w K mg) (TB : TBs base mg K) (m0 : Nat) : Hd P w K mg base (6 * m0 + 11) (He.ga K "_law_seen_right") (U (spSeen K (tabs K)) m0) := by
  refine mk_hd X.F_law_seen_right sc_law_seen_right (fun _ _ _ _ ⟨_, _, _, _, _, _, _, _, _, _, e, _⟩ => by rw [e]; rfl) (fun cdv A' outer s H vs Q E hr h => ?_)
  obtain ⟨i, him, na, d, wa, kvs, nm, ss, x, win, rfl, N, hd, S, hT, hx, hw, wok, q⟩ := h
  have nd := sc_law_seen_right.nd
  obtain ⟨n, dd, ok⟩ := S.ch i (List.getElem?_eq_some_iff.mp hx).1
  refine ⟨_, pss_cons (ps_set (i := 4) nd rfl (.inl rfl) (pe_hm (pv 0) X.c_Net X.me_Net_whole (ok_whole3 X TB m0) hr (pa_cons (pv 2) (pa_cons (pv 3) pa_nil))))
    (pss_cons (ps_set (i := 5) nd rfl (.inl rfl) (pe_lst (pa_cons (pe_h (ok_law_whole (T := tabs K) X m0) hr X.g_law_whole (pa_cons (pv 1) (pa_cons (pv 2) (pa_cons (pv 3) pa_nil)))) (pa_cons (pe_ix ix_tup (pv 3) pe_int (fun _ _ => rfl)) (pa_cons (pe_ix ix_tup (pv 3) pe_int (fun _ _ => rfl)) (pa_cons (pe_ix ix_tup (pe_h (ok_law_shape (T := tabs K) X m0) hr X.g_law_shape (pa_cons (pv 1) (pa_cons (pv 2) pa_nil))) pe_int (fun _ _ => rfl)) pa_nil))))))
    (pss_one (ps_ret (pe_h (ok_same (T := tabs K) X 4) hr X.g_law_same (pa_cons (pe_lst (pa_cons (pe_fld (pv 4) rfl) (pa_cons (pe_fld (pv 4) rfl) (pa_cons (pe_fld (pv 4) rfl) (pa_cons (pe_fld (pv 4) rfl) pa_nil))))) (pa_cons (pv 5) pa_nil)))))), ?_⟩
  have N0 := N
  obtain ⟨dx, nd', nh, nk, nkh, ND⟩ := N0
  refine ⟨_, rfl, na, dx, _, rfl, ND.ins, netF_no _ _ (by decide +kernel), _, rfl, _, rfl, i, him, na, nm, ss, x, wa, win, n, dd, rfl, N, hT, hx, hw, wok, ok, fun H1 pa k1 hp1 => ?_⟩
  refine ⟨_, rfl, _, rfl, _, rfl, i, him, d, wa, kvs, nm, ss, x, win, n, dd, rfl, k1.dK hd id, S.kp k1 NoPic.no, hx, k1.tp _ _ hw, wok, ok, fun H2 t k2 ht2 => ?_⟩
  have k12 := k1.tr k2
  have hw2 := k12.tp _ _ hw
  refine ⟨_, rfl, _, _, _, _, rfl, rfl, SqT.of hw2, atI_nat (j := 0) rfl, ?_⟩
  refine ⟨_, rfl, _, _, _, _, rfl, rfl, SqT.of hw2, atI_nat (j := 1) rfl, ?_⟩
  refine ⟨_, rfl, _, rfl, i, him, d, kvs, nm, ss, x, n, dd, rfl, k12.dK hd id, S.kp k12 NoPic.no, hx, ok, fun H3 sh k3 hsh => ?_⟩
  refine ⟨_, _, _, _, rfl, rfl, SqT.of hsh, atI_nat (j := 1) rfl, small_tup (by show (4 : Nat) ≤ 1000; decide), fun dl hdl => ?_⟩
  have k4 : Kp (tabs K) No H3 (upd H3 dl (.lst [.ref t, .int win.l, .int win.u, .int dd])) := .new hdl
  have hdl4 : (upd H3 dl (.lst [.ref t, .int win.l, .int win.u, .int dd])) dl = some (.lst [.ref t, .int win.l, .int win.u, .int dd]) := upd_same
  generalize hH4 : upd H3 dl (.lst [.ref t, .int win.l, .int win.u, .int dd]) = H4 at k4 hdl4
  have k24 := (k2.tr k3).tr k4
  have hp4 := hp1.kp k24 NoPic.no
  obtain ⟨pdx, pt, hi, hpl⟩ := hp4
  refine ⟨_, rfl, _, _, _, _, _, rfl, hi, X.c_Picture, X.n_Picture_planes, picF_planes _ _, ?_⟩
  refine ⟨_, rfl, _, _, _, _, _, rfl, hi, X.c_Picture, X.n_Picture_left, picF_left _ _, ?_⟩
  refine ⟨_, rfl, _, _, _, _, _, rfl, hi, X.c_Picture, X.n_Picture_up, picF_up _ _, ?_⟩
  refine ⟨_, rfl, _, _, _, _, _, rfl, hi, X.c_Picture, X.n_Picture_depth, picF_depth _ _, ?_⟩
  refine ⟨small_tup (by show (4 : Nat) ≤ 1000; decide), fun fl hfl => ?_⟩
  have k5 : Kp (tabs K) No H4 (upd H4 fl (.lst [.ref pt, .int win.l, .int win.u, .int dd])) := .new hfl
  have pok := whole_ok ok wok
  have w1 := pok.w1
  have h1 := pok.h1
  have n1 := pok.n1
  refine ⟨_, rfl, _, _, rfl, .inr ⟨fl, dl, [.ref pt, .int win.l, .int win.u, .int dd], [.ref t, .int win.l, .int win.u, .int dd], rfl, rfl, rfl, (by show (4 : Nat) ≤ 70000; decide), fun j x y ex ey => ?_, .inr ⟨upd_same, k5.lst hdl4 id⟩⟩, fun H6 k6 => q H6 ((((k12.tr k3).tr k4).tr k5).tr k6)⟩
  match j, ex, ey with
  | 0, ex, ey =>
    rw [← Option.some.inj ex, ← Option.some.inj ey]
    exact Sm.ofPlanes (hpl.keep k5.tp) ((ht2.keep ((k3.tr k4).tr k5).tp) : PlanesAt _ t (wholePic (ss.take (i + 1)).reverse n dd win).planes) (by omega) (fun pl hpl => by have := pok.rows pl hpl; omega) fun pl hpl row hr => by have := pok.cols pl hpl row hr; omega
  | 1, ex, ey =>
    rw [← Option.some.inj ex, ← Option.some.inj ey]
    exact Sm.int _ 3
  | 2, ex, ey =>
    rw [← Option.some.inj ex, ← Option.some.inj ey]
    exact Sm.int _ 3
  | 3, ex, ey =>
    rw [← Option.some.inj ex, ← Option.some.inj ey]
    exact Sm.int _ 3
end
end K9

set_option maxHeartbeats 4000000
namespace K9
open PySem PySem.Spec PyProof.Rows L2 NdefX LamX
section
variable {P : Program} {w : World} {K : PySem.W.Frag} {mg : Str → Option Value} {base : Heap} {T : List NTab}
abbrev tbN : List Str := ["_law_pen_here", "_law_deep", "_law_fresh", "_law_lot", "_law_first", "_law_step", "_law_number"]
def spTable (T : List NTab) : Sp := fun vs H Q _ => ∃ (pen pl : Addr) (b : Nat) (deep fresh : Int), vs = [.ref pen, .int deep, .int fresh] ∧ PenAt H pen pl b ∧ 1 ≤ deep ∧ deep ≤ 900 ∧ 1 ≤ fresh ∧ fresh ≤ 900 ∧ b ≤ 900000000 ∧
  ∀ (H' : Hp) (t : Addr) (tb : List Int), Kp T (On pen) H H' → PenAt H' pen pl (b + 3) → H' t = some (.tup (tb.map V.int)) → (tb.length : Int) = deep + 1 → (∀ v ∈ tb, 0 ≤ v ∧ v ≤ fresh) → Q (.ref t) H'
theorem ok_table (X : Tx w K mg) : Hd P w K mg base 2 (He.ga K "_law_table") (spTable T) := by
  refine mk_hd X.F_law_table sc_law_table (fun _ _ _ _ ⟨_, _, _, _, _, e, _⟩ => by rw [e]; rfl) (fun cdv A' outer s H vs Q E hr h => ?_)
  obtain ⟨pen, pl, b, deep, fresh, rfl, hp, hd0, hd1, hf0, hf1, hb, q⟩ := h
  have nd := sc_law_table.nd
  have D : Hd P w K mg base 1 (He.ga K "_law_draw") (spDraw T) := ok_draw X
  refine ⟨_, pss_cons (ps_asg (pe_tup (pa_cons (pe_h D hr X.g_law_draw (pa_cons (pv 0) (pa_cons pe_int pa_nil))) (pa_cons (pe_h D hr X.g_law_draw (pa_cons (pv 0) (pa_cons (pe_op op_add (pv 2) pe_int) pa_nil))) (pa_cons (pe_op op_add pe_int (pe_h D hr X.g_law_draw (pa_cons (pv 0) (pa_cons (pe_op op_add (pv 2) pe_int) pa_nil)))) pa_nil)))) (pg_tup rfl (pgs_cons (pg_name (i := 3) nd rfl (.inl rfl)) (pgs_cons (pg_name (i := 4) nd rfl (.inr rfl)) (pgs_cons (pg_name (i := 5) nd rfl (.inr rfl)) pgs_nil)))))
    (pss_cons (ps_if (pt_cmpR op_eq (pv 3) pe_int (nomark _)) (pss_one (ps_ret (pe_op op_repT (pe_tup (pa_cons (pv 4) pa_nil)) (pe_op op_add (pv 1) pe_int)))) pss_nil)
    (pss_cons (ps_if (pt_cmpR op_eq (pv 3) pe_int (nomark _)) (pss_one (ps_ret (pe_tuple X.f_tuple (pe_lc (own := [("_law_number", 6)]) (g := gName 6) (by rfl) nd (pi_range1 rfl X.f_range (pa_cons (pe_op op_add (pv 1) pe_int) pa_nil)) (blkOk_by (N := tbN) (sc := defScope s_law_table) (by decide +kernel))
        (fun _ _ _ _ _ => pg_name (i := 6) nd rfl (Or.inl rfl)) (fun _ _ _ _ _ => pts_nil) (fun _ _ _ _ _ => pe_callB (call_min2 rfl) (by rfl) X.f_min bb_min (pa_cons (pv 6) (pa_cons (pv 2) pa_nil))))))) pss_nil)
    (pss_cons (ps_if (pt_cmpR op_eq (pv 3) pe_int (nomark _)) (pss_one (ps_ret (pe_tuple X.f_tuple (pe_lc (own := [("_law_number", 6)]) (g := gName 6) (by rfl) nd (pi_range1 rfl X.f_range (pa_cons (pe_op op_add (pv 1) pe_int) pa_nil)) (blkOk_by (N := tbN) (sc := defScope s_law_table) (by decide +kernel))
        (fun _ _ _ _ _ => pg_name (i := 6) nd rfl (Or.inl rfl)) (fun _ _ _ _ _ => pts_nil) (fun _ _ _ _ _ => pe_callB (call_max2 rfl) (by rfl) X.f_max bb_max (pa_cons pe_int (pa_cons (pe_op op_sub (pv 2) (pv 6)) pa_nil))))))) pss_nil)
    (pss_cons (ps_if (pt_cmpR op_eq (pv 3) pe_int (nomark _)) (pss_one (ps_ret (pe_tuple X.f_tuple (pe_lc (own := [("_law_number", 6)]) (g := gName 6) (by rfl) nd (pi_range1 rfl X.f_range (pa_cons (pe_op op_add (pv 1) pe_int) pa_nil)) (blkOk_by (N := tbN) (sc := defScope s_law_table) (by decide +kernel))
        (fun _ _ _ _ _ => pg_name (i := 6) nd rfl (Or.inl rfl)) (fun _ _ _ _ _ => pts_nil) (fun _ _ _ _ _ => pe_op op_fdiv (pe_op op_mul (pv 6) (pv 2)) (pv 1)))))) pss_nil)
    (pss_one (ps_ret (pe_tuple X.f_tuple (pe_lc (own := [("_law_number", 6)]) (g := gName 6) (by rfl) nd (pi_range1 rfl X.f_range (pa_cons (pe_op op_add (pv 1) pe_int) pa_nil)) (blkOk_by (N := tbN) (sc := defScope s_law_table) (by decide +kernel))
        (fun _ _ _ _ _ => pg_name (i := 6) nd rfl (Or.inl rfl)) (fun _ _ _ _ _ => pts_nil) (fun _ _ _ _ _ => pe_op op_mod (pe_op op_add (pe_op op_add (pv 4) (pe_op op_mul (pv 5) (pv 6))) (pe_op op_fdiv (pe_op op_mul (pv 6) (pv 6)) pe_int)) (pe_op op_add (pv 2) pe_int)))))))))), ?_⟩
  refine ⟨_, rfl, pen, pl, 6, b, rfl, hp, by decide, by decide, by omega, fun lot H1 l0 l1 k1 hp1 => ?_⟩
  refine ⟨_, rfl, _, rfl, _, _, rfl, rfl, pen, pl, fresh + 1, b + 1, rfl, hp1, by omega, by omega, by omega, fun fi H2 f0 f1 k2 hp2 => ?_⟩
  refine ⟨_, rfl, _, rfl, _, _, rfl, rfl, pen, pl, fresh + 1, b + 2, rfl, hp2, by omega, by omega, by omega, fun st H3 s0 s1 k3 hp3 => ?_⟩
  refine ⟨_, _, rfl, rfl, small_tup (by show (3 : Nat) ≤ 1000; decide), fun tt htt => ?_⟩
  have k4 : Kp T No H3 (upd H3 tt (.tup [.int lot, .int fi, .int (1 + st)])) := .new htt
  refine ⟨tt, _, rfl, SqT.of upd_same, rfl, _, _, rfl, _, _, rfl, _, _, rfl, rfl, ?_⟩
  generalize hH4 : upd H3 tt (.tup [.int lot, .int fi, .int (1 + st)]) = H4 at k4
  have kk : Kp T (On pen) H H4 := ((k1.tr k2).tr k3).trN k4
  have hp4 := hp3.kn k4
  have fin : ∀ (H5 H6 : Hp) (D t : Addr) (acc : List V), Kp T No H4 H5 → acc.length = (deep + 1).toNat → (∀ (j : Nat) v, acc[j]? = some v → ∃ n : Int, v = .int n ∧ 0 ≤ n ∧ n ≤ fresh) → H5 t = none → Q (.ref t) (upd H5 t (.tup acc)) := fun H5 H6 D t acc k5 el ha ht => by
    obtain ⟨ns, rfl, hn⟩ := acc_ints (F := fun n => 0 ≤ n ∧ n ≤ fresh) ha
    rw [List.length_map] at el
    have k6 := k5.tr (.new (o := .tup (ns.map V.int)) ht)
    exact q _ t ns (kk.trN k6) ((hp4.kn k6).le (by omega)) upd_same (by omega) hn
  refine ⟨_, rfl, rfl, _, rfl, iteD (fun _ => ?_) fun _ => ?_⟩
  · refine ⟨_, rfl, small_tup (by show (1 : Nat) ≤ 1000; decide), fun t1 ht1 => ?_⟩
    have k5 : Kp T No H4 (upd H4 t1 (.tup [.int fi])) := .new ht1
    refine ⟨_, rfl, _, _, rfl, rfl, t1, deep + 1, [.int fi], rfl, rfl, SqT.of upd_same, List.cons_ne_nil _ _, by omega, by omega, (by show (1 : Nat) ≤ 1000; decide), fun t ht => ?_⟩
    have e : (List.replicate (deep + 1).toNat [V.int fi]).flatten = (List.replicate (deep + 1).toNat fi).map V.int := by
      generalize (deep + 1).toNat = m
      induction m with
      | zero => rfl
      | succ m ih => rw [List.replicate_succ, List.flatten_cons, ih, List.replicate_succ, List.map_cons]; rfl
    rw [e]
    have k6 := k5.tr (.new (o := .tup ((List.replicate (deep + 1).toNat fi).map V.int)) ht)
    refine q _ t _ (kk.trN k6) ((hp4.kn k6).le (by omega)) upd_same (by rw [List.length_replicate]; omega) fun v hv => ?_
    rw [(List.mem_replicate.mp hv).2]
    omega
  refine ⟨_, rfl, rfl, _, rfl, iteD (fun _ => ?_) fun _ => ?_⟩
  · refine ⟨_, rfl, _, _, rfl, rfl, _, rfl, by omega, by omega, fun D hD => lc_mapR (T := T) (M := No) (lo := 0) (n := (deep + 1).toNat) (R := fun _ v _ => ∃ n : Int, v = .int n ∧ 0 ≤ n ∧ n ≤ fresh) (G := G0) hD True.intro (fun i H5 hi p => ?_) fun H5 acc k5 e5 el5 ha5 _ => ⟨D, acc, rfl, e5, fun t ht => fin H5 H5 D t acc k5 el5 ha5 ht⟩⟩
    refine ⟨rfl, ?_⟩
    refine ⟨_, rfl, _, rfl, _, _, rfl, ?_⟩
    exact p.next Tst.pure id hD .refl (line_big (by omega)) ⟨_, rfl, by split <;> omega, by split <;> omega⟩ fun _ => True.intro
  refine ⟨_, rfl, rfl, _, rfl, iteD (fun _ => ?_) fun _ => ?_⟩
  · refine ⟨_, rfl, _, _, rfl, rfl, _, rfl, by omega, by omega, fun D hD => lc_mapR (T := T) (M := No) (lo := 0) (n := (deep + 1).toNat) (R := fun _ v _ => ∃ n : Int, v = .int n ∧ 0 ≤ n ∧ n ≤ fresh) (G := G0) hD True.intro (fun i H5 hi p => ?_) fun H5 acc k5 e5 el5 ha5 _ => ⟨D, acc, rfl, e5, fun t ht => fin H5 H5 D t acc k5 el5 ha5 ht⟩⟩
    refine ⟨rfl, ?_⟩
    refine ⟨_, rfl, _, rfl, _, _, rfl, rfl, _, _, rfl, ?_⟩
    exact p.next Tst.pure id hD .refl (line_big (by omega)) ⟨_, rfl, by split <;> omega, by split <;> omega⟩ fun _ => True.intro
  refine ⟨_, rfl, rfl, _, rfl, iteD (fun _ => ?_) fun _ => ?_⟩
  · refine ⟨_, rfl, _, _, rfl, rfl, _, rfl, by omega, by omega, fun D hD => lc_mapR (T := T) (M := No) (lo := 0) (n := (deep + 1).toNat) (R := fun _ v _ => ∃ n : Int, v = .int n ∧ 0 ≤ n ∧ n ≤ fresh) (G := G0) hD True.intro (fun i H5 hi p => ?_) fun H5 acc k5 e5 el5 ha5 _ => ⟨D, acc, rfl, e5, fun t ht => fin H5 H5 D t acc k5 el5 ha5 ht⟩⟩
    refine ⟨rfl, ?_⟩
    refine ⟨_, rfl, _, rfl, _, _, rfl, rfl, .inl ⟨by omega, by omega⟩, _, rfl, _, _, rfl, rfl, ⟨by omega, by omega⟩, ?_⟩
    refine p.next Tst.pure id hD .refl (line_big (by omega)) ⟨_, rfl, Int.ediv_nonneg (Int.mul_nonneg (by omega) (by omega)) (by omega), ?_⟩ fun _ => True.intro
    have hle : (0 + (i : Int)) * fresh ≤ deep * fresh := Int.mul_le_mul_of_nonneg_right (by omega) (by omega)
    have h2 := Int.ediv_le_ediv (show (0 : Int) < deep by omega) hle
    rw [Int.mul_ediv_cancel_left _ (by omega)] at h2
    exact h2
  · refine ⟨_, rfl, _, _, rfl, rfl, _, rfl, by omega, by omega, fun D hD => lc_mapR (T := T) (M := No) (lo := 0) (n := (deep + 1).toNat) (R := fun _ v _ => ∃ n : Int, v = .int n ∧ 0 ≤ n ∧ n ≤ fresh) (G := G0) hD True.intro (fun i H5 hi p => ?_) fun H5 acc k5 e5 el5 ha5 _ => ⟨D, acc, rfl, e5, fun t ht => fin H5 H5 D t acc k5 el5 ha5 ht⟩⟩
    refine ⟨rfl, ?_⟩
    refine ⟨_, rfl, _, rfl, _, rfl, _, _, rfl, rfl, .inl ⟨by omega, by omega⟩, _, _, rfl, rfl, ?_⟩
    refine ⟨_, rfl, _, rfl, _, _, rfl, rfl, .inl ⟨by omega, by omega⟩, _, _, rfl, rfl, ⟨by decide, by decide⟩, _, _, rfl, rfl, ?_⟩
    refine ⟨_, rfl, _, _, rfl, rfl, _, _, rfl, rfl, (by show 0 < fresh + 1; omega), ?_⟩
    refine p.next Tst.pure id hD .refl (line_big (by omega)) ⟨_, rfl, Int.emod_nonneg _ (by omega), ?_⟩ fun _ => True.intro
    have := Int.emod_lt_of_pos (fi + (1 + st) * (0 + (i : Int)) + (0 + (i : Int)) * (0 + (i : Int)) / 3) (show 0 < fresh + 1 by omega)
    omega
end
end K9

set_option maxHeartbeats 4000000
namespace K9
open PySem PySem.Spec PyProof.Rows L2 NdefX LamX
section
variable {P : Program} {w : World} {K : PySem.W.Frag} {mg : Str → Option Value} {base : Heap} {T : List NTab}
/-- a stage on one of depth deep -/
def LinkOk (s : Stg) (deep d' : Int) : Prop := s.nargs = 1 ∧ 1 ≤ d' ∧ d' ≤ 900 ∧ ∀ below n, ChOk below n deep → ChOk (s :: below) n d'
def spLink (K : PySem.W.Frag) (T : List NTab) : Sp := fun vs H Q _ => ∃ (pen pl : Addr) (b : Nat) (of : Str) (deep : Int), vs = [.ref pen, .str of, .int deep] ∧ PenAt H pen pl b ∧ 1 ≤ deep ∧ deep ≤ 900 ∧ b ≤ 800000000 ∧
  ∀ (H' : Hp) (t sa : Addr) (s : Stg) (d' : Int), Kp T (On pen) H H' → PenAt H' pen pl (b + 12) → H' t = some (.tup [.ref sa, .int d']) → StgAt K H' sa of s → LinkOk s deep d' → Q (.ref t) H'
theorem ok_link (X : Tx w K mg) : Hd P w K mg base 3 (He.ga K "_law_link") (spLink K T) := by
  refine mk_hd X.F_law_link sc_law_link (fun _ _ _ _ ⟨_, _, _, _, _, e, _⟩ => by rw [e]; rfl) (fun cdv A' outer s H vs Q E hr h => ?_)
  obtain ⟨pen, pl, b, of, deep, rfl, hp, hd0, hd1, hb, q⟩ := h
  have nd := sc_law_link.nd
  have D : Hd P w K mg base 1 (He.ga K "_law_draw") (spDraw T) := ok_draw X
  refine ⟨_, pss_cons (ps_set (i := 3) nd rfl (.inl rfl) (pe_h D hr X.g_law_draw (pa_cons (pv 0) (pa_cons pe_int pa_nil))))
    (pss_cons (ps_set (i := 4) nd rfl (.inl rfl) (pe_ix ix_list (pe_lst (pa_cons pe_int (pa_cons pe_int (pa_cons pe_int pa_nil)))) (pe_h D hr X.g_law_draw (pa_cons (pv 0) (pa_cons pe_int pa_nil))) (fun _ _ => rfl)))
    (pss_cons (ps_if (pt_cmpR op_lt (pv 3) pe_int (nomark _)) (pss_one (ps_ret (pe_tup (pa_cons (pe_tup (pa_cons pe_str (pa_cons (pv 1) (pa_cons (pe_op op_sub (pe_h D hr X.g_law_draw (pa_cons (pv 0) (pa_cons (pe_op op_add (pe_op op_mul pe_int (pv 4)) pe_int) pa_nil))) (pv 4)) (pa_cons (pe_op op_sub (pe_h D hr X.g_law_draw (pa_cons (pv 0) (pa_cons (pe_op op_add (pe_op op_mul pe_int (pv 4)) pe_int) pa_nil))) (pv 4)) pa_nil))))) (pa_cons (pv 2) pa_nil))))) pss_nil)
    (pss_cons (ps_if (pt_cmpR op_eq (pv 3) pe_int (nomark _)) (pss_one (ps_ret (pe_tup (pa_cons (pe_tup (pa_cons pe_str (pa_cons (pv 1) (pa_cons (pe_cmpR op_eq (pe_h D hr X.g_law_draw (pa_cons (pv 0) (pa_cons pe_int pa_nil))) pe_int (nomark _)) pa_nil)))) (pa_cons (pv 2) pa_nil))))) pss_nil)
    (pss_cons (ps_if (pt_cmpR op_eq (pv 3) pe_int (nomark _)) (pss_one (ps_ret (pe_tup (pa_cons (pe_tup (pa_cons pe_str (pa_cons (pv 1) pa_nil))) (pa_cons (pv 2) pa_nil))))) pss_nil)
    (pss_cons (ps_if (pt_cmpR op_eq (pv 3) pe_int (nomark _)) (pss_one (ps_ret (pe_tup (pa_cons (pe_tup (pa_cons pe_str (pa_cons (pv 1) (pa_cons (pe_h (ok_law_window (T := T) X) hr X.g_law_window (pa_cons (pv 0) (pa_cons pe_int (pa_cons pe_int pa_nil)))) (pa_cons (pe_h (ok_law_border (T := T) X) hr X.g_law_border (pa_cons (pv 0) (pa_cons (pv 2) pa_nil))) pa_nil))))) (pa_cons (pv 2) pa_nil))))) pss_nil)
    (pss_cons (ps_set (i := 5) nd rfl (.inl rfl) (pe_ix ix_list (pe_lst (pa_cons pe_non (pa_cons pe_non (pa_cons (pe_op op_add pe_int (pe_h D hr X.g_law_draw (pa_cons (pv 0) (pa_cons pe_int pa_nil)))) (pa_cons (pe_op op_add pe_int (pe_h D hr X.g_law_draw (pa_cons (pv 0) (pa_cons pe_int pa_nil)))) pa_nil))))) (pe_h D hr X.g_law_draw (pa_cons (pv 0) (pa_cons pe_int pa_nil))) (fun _ _ => rfl)))
    (pss_one (ps_ret (pe_tup (pa_cons (pe_tup (pa_cons pe_str (pa_cons (pv 1) (pa_cons (pe_h (ok_table (T := T) X) hr X.g_law_table (pa_cons (pv 0) (pa_cons (pv 2) (pa_cons (pe_ifExp (pt_cmpR op_isN (pv 5) pe_non (nomark _)) (pv 2) (pv 5)) pa_nil)))) (pa_cons (pv 5) pa_nil))))) (pa_cons (pe_orT (pv 5) (pe_one (pv 2))) pa_nil))))))))))), ?_⟩
  refine ⟨_, rfl, pen, pl, 7, b, rfl, hp, by decide, by decide, by omega, fun lot H1 l0 l1 k1 hp1 => ?_⟩
  refine ⟨small_tup (by show (3 : Nat) ≤ 1000; decide), fun sl hsl => ?_⟩
  have ks : Kp T No H1 (upd H1 sl (.lst (([3, 3, 500] : List Int).map V.int))) := .new hsl
  have slp := hp1.there hsl
  refine ⟨_, rfl, pen, pl, 3, b + 1, rfl, hp1.kn ks, by decide, by decide, by omega, fun r2 H2 r20 r21 k2 hp2 => ?_⟩
  obtain ⟨far, hfar, hat⟩ := pickI (l := [3, 3, 500]) r20 r21
  have kk : Kp T (On pen) H H2 := (k1.trN ks).tr k2
  have fb : 3 ≤ far ∧ far ≤ 500 := by
    simp only [List.mem_cons, List.not_mem_nil, or_false] at hfar
    omega
  refine ⟨_, _, _, _, rfl, rfl, SqL.of (k2.lst upd_same slp), hat, ?_⟩
  refine ⟨_, rfl, _, _, rfl, rfl, _, rfl, iteD (fun _ => ?_) fun _ => ?_⟩
  · refine ⟨_, rfl, _, rfl, _, rfl, _, _, rfl, rfl, .inl ⟨by decide, by decide⟩, _, _, rfl, rfl, pen, pl, 2 * far + 1, b + 2, rfl, hp2, by omega, by omega, by omega, fun r3 H3 r30 r31 k3 hp3 => ?_⟩
    refine ⟨_, rfl, _, _, rfl, rfl, ?_⟩
    refine ⟨_, rfl, _, rfl, _, _, rfl, rfl, .inl ⟨by decide, by decide⟩, _, _, rfl, rfl, pen, pl, 2 * far + 1, b + 3, rfl, hp3, by omega, by omega, by omega, fun r4 H4 r40 r41 k4 hp4 => ?_⟩
    refine ⟨_, rfl, _, _, rfl, rfl, small_tup (by show (4 : Nat) ≤ 1000; decide), fun sa hsa => ?_⟩
    have k5 : Kp T No H4 (upd H4 sa (.tup [.str "moved", .str of, .int (r3 - far), .int (r4 - far)])) := .new hsa
    refine ⟨_, rfl, small2, fun t ht => ?_⟩
    have k6 := k5.tr (.new (o := .tup [.ref sa, .int deep]) ht)
    exact q _ t sa (.moved (r3 - far) (r4 - far)) deep (((kk.tr k3).tr k4).trN k6) ((hp4.kn k6).le (by omega)) upd_same ((Kp.new (T := T) (M := No) ht).tp _ _ upd_same) ⟨rfl, hd0, hd1, fun below n h => ⟨h, ⟨by omega, by omega⟩, by omega, by omega⟩⟩
  refine ⟨_, rfl, rfl, _, rfl, iteD (fun _ => ?_) fun _ => ?_⟩
  · refine ⟨_, rfl, _, rfl, pen, pl, 2, b + 2, rfl, hp2, by decide, by decide, by omega, fun r3 H3 r30 r31 k3 hp3 => ?_⟩
    refine ⟨rfl, small_tup (by show (3 : Nat) ≤ 1000; decide), fun sa hsa => ?_⟩
    have k5 : Kp T No H3 (upd H3 sa (.tup [.str "flipped", .str of, .bl (decide (V.int r3 = V.int 0))])) := .new hsa
    refine ⟨_, rfl, small2, fun t ht => ?_⟩
    have k6 := k5.tr (.new (o := .tup [.ref sa, .int deep]) ht)
    exact q _ t sa (.flipped (decide (V.int r3 = V.int 0))) deep ((kk.tr k3).trN k6) ((hp3.kn k6).le (by omega)) upd_same ((Kp.new (T := T) (M := No) ht).tp _ _ upd_same) ⟨rfl, hd0, hd1, fun below n h => h⟩
  refine ⟨_, rfl, rfl, _, rfl, iteD (fun _ => ?_) fun _ => ?_⟩
  · refine ⟨_, rfl, small2, fun sa hsa => ?_⟩
    have k5 : Kp T No H2 (upd H2 sa (.tup [.str "turned", .str of])) := .new hsa
    refine ⟨_, rfl, small2, fun t ht => ?_⟩
    have k6 := k5.tr (.new (o := .tup [.ref sa, .int deep]) ht)
    exact q _ t sa .turned deep (kk.trN k6) ((hp2.kn k6).le (by omega)) upd_same ((Kp.new (T := T) (M := No) ht).tp _ _ upd_same) ⟨rfl, hd0, hd1, fun below n h => h⟩
  refine ⟨_, rfl, rfl, _, rfl, iteD (fun _ => ?_) fun _ => ?_⟩
  · refine ⟨_, rfl, _, rfl, pen, pl, b + 2, 7, 6, rfl, hp2, by decide, by decide, by decide, by decide, by omega, fun H3 wa win k3 hp3 hw wok => ?_⟩
    refine ⟨_, rfl, _, rfl, pen, pl, b + 2 + 4, deep, rfl, hp3, hd0, by omega, by omega, fun H4 bd k4 hp4 hbd => ?_⟩
    refine ⟨small_tup (by show (4 : Nat) ≤ 1000; decide), fun sa hsa => ?_⟩
    have k5 : Kp T No H4 (upd H4 sa (.tup [.str "framed", .str of, .ref wa, bdV bd])) := .new hsa
    refine ⟨_, rfl, small2, fun t ht => ?_⟩
    have k6 := k5.tr (.new (o := .tup [.ref sa, .int deep]) ht)
    exact q _ t sa (.framed win bd) deep (((kk.tr k3).tr k4).trN k6) ((hp4.kn k6).le (by omega)) upd_same ⟨wa, (Kp.new (T := T) (M := No) ht).tp _ _ upd_same, (k4.trN k6).tp _ _ hw⟩ ⟨rfl, hd0, hd1, fun below n h => ⟨h, wok, hbd⟩⟩
  refine ⟨_, rfl, pen, pl, 9, b + 2, rfl, hp2, by decide, by decide, by omega, fun r3 H3 r30 r31 k3 hp3 => ?_⟩
  refine ⟨_, _, rfl, rfl, _, rfl, pen, pl, 600, b + 3, rfl, hp3, by decide, by decide, by omega, fun r4 H4 r40 r41 k4 hp4 => ?_⟩
  refine ⟨_, _, rfl, rfl, small_tup (by show (4 : Nat) ≤ 1000; decide), fun s2 hs2 => ?_⟩
  have k5 : Kp T No H4 (upd H4 s2 (.lst (([none, none, some (1 + r3), some (1 + r4)] : List (Option Int)).map optV))) := .new hs2
  have s2p := hp4.there hs2
  refine ⟨_, rfl, pen, pl, 4, b + 4, rfl, hp4.kn k5, by decide, by decide, by omega, fun r5 H6 r50 r51 k6 hp6 => ?_⟩
  have hi : r5.toNat < ([none, none, some (1 + r3), some (1 + r4)] : List (Option Int)).length := by show r5.toNat < 4; omega
  refine ⟨_, _, _, _, rfl, rfl, SqL.of (k6.lst upd_same s2p), atI_int (xs := ([none, none, some (1 + r3), some (1 + r4)] : List (Option Int)).map optV) r50 (map_at (List.getElem?_eq_getElem hi)), ?_⟩
  have hm := List.getElem_mem hi
  generalize ([none, none, some (1 + r3), some (1 + r4)] : List (Option Int))[r5.toNat] = o at hm
  have k26 : Kp T (On pen) H H6 := (((kk.tr k3).tr k4).trN k5).tr k6
  have ob : ∀ z, o = some z → 1 ≤ z ∧ z ≤ 600 := fun z e => by
    rw [e] at hm
    simp only [List.mem_cons, List.not_mem_nil, or_false, reduceCtorEq, false_or, Option.some.injEq] at hm
    omega
  cases o with
  | none =>
    refine ⟨_, rfl, _, rfl, _, rfl, _, rfl, rfl, _, rfl, iteD (fun _ => ?_) fun z => absurd rfl z⟩
    refine ⟨_, rfl, pen, pl, b + 5, deep, deep, rfl, hp6, hd0, hd1, hd0, hd1, by omega, fun H7 ta tb k7 hp7 hta htl htv => ?_⟩
    refine ⟨_, rfl, small_tup (by show (4 : Nat) ≤ 1000; decide), fun sa hsa => ?_⟩
    have k8 : Kp T No H7 (upd H7 sa (.tup [.str "curved", .str of, .ref ta, .non])) := .new hsa
    refine ⟨_, rfl, false, rfl, iteF ?_⟩
    refine ⟨_, rfl, small2, fun t ht => ?_⟩
    have k9 := k8.tr (.new (o := .tup [.ref sa, .int deep]) ht)
    exact q _ t sa (.curved tb none) deep ((k26.tr k7).trN k9) ((hp7.kn k9).le (by omega)) upd_same ⟨ta, (Kp.new (T := T) (M := No) ht).tp _ _ upd_same, k9.tp _ _ hta⟩ ⟨rfl, hd0, hd1, fun below n h => ⟨deep, h, ⟨htl, ⟨hd0, by omega⟩, ⟨hd0, by omega⟩, rfl, htv⟩⟩⟩
  | some z =>
    obtain ⟨z0, z1⟩ := ob z rfl
    refine ⟨_, rfl, _, rfl, _, rfl, _, rfl, rfl, _, rfl, iteD (fun z => nomatch z) fun _ => ?_⟩
    refine ⟨_, rfl, pen, pl, b + 5, deep, z, rfl, hp6, hd0, hd1, z0, by omega, by omega, fun H7 ta tb k7 hp7 hta htl htv => ?_⟩
    refine ⟨_, rfl, small_tup (by show (4 : Nat) ≤ 1000; decide), fun sa hsa => ?_⟩
    have k8 : Kp T No H7 (upd H7 sa (.tup [.str "curved", .str of, .ref ta, .int z])) := .new hsa
    refine ⟨_, rfl, (z != 0), rfl, iteE (by simp; omega) ?_⟩
    refine ⟨small2, fun t ht => ?_⟩
    have k9 := k8.tr (.new (o := .tup [.ref sa, .int z]) ht)
    exact q _ t sa (.curved tb (some z)) z ((k26.tr k7).trN k9) ((hp7.kn k9).le (by omega)) upd_same ⟨ta, (Kp.new (T := T) (M := No) ht).tp _ _ upd_same, k9.tp _ _ hta⟩ ⟨rfl, z0, by omega, fun below n h => ⟨deep, h, ⟨htl, ⟨hd0, by omega⟩, ⟨z0, by omega⟩, rfl, htv⟩⟩⟩
end
end K9

set_option maxHeartbeats 4000000
namespace K9
open PySem PySem.Spec PyProof.Rows L2 NdefX LamX
/-! ### d.update(e), two dicts -/
def rUpdD : V → List V → Hp → VK → Prop := fun x xs H Q => ∃ (d o : Addr) (kvs more : List (Key × V)), x = .ref d ∧ xs = [.ref o] ∧ H d = some (.dK kvs) ∧ H o = some (.dK more) ∧ d ≠ o ∧ kvs.length + more.length ≤ sizeLine ∧ Q .non (upd H d (.dK (mergeK kvs more)))
theorem mt_updD {X : Cx} : MtR X "dict.update" rUpdD := by
  intro pins s σ H x xs v us Q I rx rxs h
  obtain ⟨d, o, kvs, more, rfl, rfl, hd, ho, hne, hsz, q⟩ := h
  obtain rfl : v = Value.ref d := rx
  obtain ⟨u, rfl, ru⟩ := vals1 rxs
  obtain rfl : u = Value.ref o := ru
  obtain ⟨z1, s1, vs, r1, d1⟩ := dk_of I.hok hd
  obtain ⟨z2, s2, ws, r2, d2⟩ := dk_of I.hok ho
  have rm := KV.merge r2 r1
  have lm := merged_length_le vs ws
  have l1 := r1.length
  have l2 := r2.length
  refine call_meetsIn PySem.F.slot_dict_update d1.typeIs PySem.F.entry_dict_update (PySem.F.args_dict_update_2 _ _) (meets_dict_update (mixKind X.prog X.w) d o hne s2) ⟨vs, ws, d1, d2, by omega, fun h' m1 _ hs => ?_⟩
  have he : ∃ q, h'.get? d = some q := let ⟨q, _, _, hq, _⟩ := m1; ⟨q, hq⟩
  exact ⟨.non, upd H d (.dK (mergeK kvs more)), d_write I (by rw [hd]; exact True.intro) hs he (dk_new (by rw [rm.length]; omega) s1 rm m1), rfl, q⟩
/-! ### keys -/
theorem keys_put {kvs : List (Key × V)} {k : Key} {v : V} : ∀ y ∈ (putK kvs k v).map (·.1), y = k ∨ y ∈ kvs.map (·.1) := by
  intro y hy
  unfold putK at hy
  split at hy
  · refine .inr ?_
    rw [List.map_map] at hy
    obtain ⟨kv, h1, h2⟩ := List.mem_map.mp hy
    refine List.mem_map.mpr ⟨kv, h1, ?_⟩
    rw [← h2]
    show kv.1 = (if kv.1 = k then (kv.1, v) else kv).1
    split <;> rfl
  · rw [List.map_append] at hy
    rcases List.mem_append.mp hy with z | z
    · exact .inr z
    · exact .inl (List.mem_singleton.mp z)
theorem keys_merge : ∀ {more kvs : List (Key × V)} {y : Key}, y ∈ (mergeK kvs more).map (·.1) → y ∈ more.map (·.1) ∨ y ∈ kvs.map (·.1)
  | [], kvs, y, h => .inr h
  | p :: more, kvs, y, h => by
    rcases keys_merge (more := more) (kvs := putK kvs p.1 p.2) h with z | z
    · exact .inl (List.mem_cons_of_mem _ z)
    · rcases keys_put y z with z | z
      · rw [z]; exact .inl List.mem_cons_self
      · exact .inr z
theorem merge_has : ∀ {more kvs : List (Key × V)} {y : Key}, ((∃ v, valV kvs y = some v) ∨ y ∈ more.map (·.1)) → ∃ v, valV (mergeK kvs more) y = some v
  | [], kvs, y, h => h.elim id fun z => nomatch z
  | p :: more, kvs, y, h => by
    refine merge_has (more := more) (kvs := putK kvs p.1 p.2) ?_
    rw [valV_put]
    by_cases e : y = p.1
    · rw [if_pos e]
      exact .inl ⟨_, rfl⟩
    · rw [if_neg e]
      rcases h with z | z
      · exact .inl z
      · rcases List.mem_cons.mp z with z | z
        · exact absurd z e
        · exact .inr z
theorem merge_len : ∀ (more kvs : List (Key × V)), (mergeK kvs more).length ≤ kvs.length + more.length
  | [], kvs => Nat.le_refl _
  | p :: more, kvs => by
    have h1 := merge_len more (putK kvs p.1 p.2)
    have h2 := putK_len kvs p.1 p.2
    show (mergeK (putK kvs p.1 p.2) more).length ≤ _
    rw [List.length_cons]
    omega
theorem paired_of {α β : Type} {F : α → β → Prop} : ∀ {as : List α} {bs : List β}, as.length = bs.length → (∀ (j : Nat) a b, as[j]? = some a → bs[j]? = some b → F a b) → Paired F as bs
  | [], [], _, _ => .nil
  | a :: as, b :: bs, h, f => .cons (f 0 a b rfl rfl) (paired_of (Nat.succ.inj h) fun j x y e1 e2 => f (j + 1) x y e1 e2)
/-- the keys are numbers of the depth -/
def NumD (fk : List (Key × V)) (d : Int) : Prop := ∀ y ∈ fk.map (·.1), ∃ n : Int, y = .inl n ∧ 0 ≤ n ∧ n ≤ d
def HasN (fk : List (Key × V)) (n : Int) : Prop := ∃ v, valV fk (.inl n) = some v
abbrev trues (ns : List Int) : List (Key × V) := ns.map fun n => (Sum.inl n, V.bl true)
theorem trues_keys {ns : List Int} {y : Key} : y ∈ (trues ns).map (·.1) ↔ ∃ n ∈ ns, y = .inl n := by
  rw [List.map_map, List.mem_map]
  exact ⟨fun ⟨n, h, e⟩ => ⟨n, h, e.symm⟩, fun ⟨n, h, e⟩ => ⟨n, h, e.symm⟩⟩
/-- a lock's end -/
theorem Kp.unlock {T : List NTab} {H : Hp} {p : Addr} {ob : Obj} {o o' : HO} (h : H p = some (.frz ob o)) : Kp T (On p) H (upd H p o') where
  kp := fun b u e nb _ => (upd_ne nb).trans e
  tp := fun b xs e => (upd_ne (ne_of e h fun z => nomatch z)).trans e
  tb := fun t q hq => by
    obtain ⟨ps, h1, h2, h3⟩ := t q hq
    refine ⟨ps, (upd_ne (ne_of h1 h fun z => nomatch z)).trans h1, h2, fun pos cv hc => ?_⟩
    obtain ⟨c, e1, e2⟩ := h3 pos cv hc
    exact ⟨c, e1, (upd_ne (ne_of e2 h fun z => by unfold CodeO at z; cases z)).trans e2⟩
section
variable {T : List NTab}
/-- a comprehension without tests over any walk that yields these items, the heap as it was -/
theorem lc_mapJ {R : Nat → V → Hp → Prop} {g : TG} {tt : TT} {te : TE} {vs : List Nat} {σ : L2.St} {H1 : Hp} {D : Addr} {Qd : Hp → Prop} {J : It} {n : Nat} {it : Nat → V} (hD : H1 D = none)
    (hgo : ∀ i H, Kp T No H1 H → i < n → J.go i H) (hst : ∀ H, Kp T No H1 H → J.stop n H) (hy : ∀ i H v H', i < n → J.yld i H v H' → H' = H ∧ v = it i)
    (hs : ∀ i H, i < n → LcP T No R G0 H1 D i H → LcT T No R G0 g tt te vs σ H1 D i (it i) H) (hd : LcD T No R G0 H1 D n Qd) : LcW J g tt te vs σ H1 D Qd := by
  refine ⟨fun i m H => m = n - i ∧ i ≤ n ∧ LcP T No R G0 H1 D i H, ⟨_, rfl, Nat.zero_le _, LcP.start hD True.intro⟩, ?_⟩
  rintro i m H ⟨rfl, hi, p⟩
  rcases Nat.lt_or_ge i n with lt | ge
  · refine .inr ⟨hgo i H p.kp lt, LcP T No R G0 H1 D (i + 1), fun H' p' => ⟨n - (i + 1), by omega, rfl, lt, p'⟩, fun v H' yy => ?_⟩
    obtain ⟨rfl, rfl⟩ := hy i H v H' lt yy
    exact hs i _ lt p
  · obtain rfl : i = n := Nat.le_antisymm hi ge
    obtain ⟨acc, e, el, h⟩ := p.acc
    exact .inl ⟨hst H p.kp, hd H acc p.kp e el h True.intro⟩
/-- pairs (n, True) -/
abbrev RPr (ns : List Int) : Nat → V → Hp → Prop := fun j v H => ∃ (t : Addr) (n : Int), v = .ref t ∧ ns[j]? = some n ∧ H t = some (.tup [.int n, .bl true])
theorem RPr.tst {ns : List Int} : Tst (RPr ns) := fun _ _ _ _ k ⟨t, n, e, h, q⟩ => ⟨t, n, e, h, k _ _ q⟩
end
end K9

set_option maxHeartbeats 4000000
namespace K9
open PySem PySem.Spec PyProof.Rows L2 NdefX LamX
section
variable {P : Program} {w : World} {K : PySem.W.Frag} {mg : Str → Option Value} {base : Heap} {T : List NTab}
abbrev nbN : List Str := ["_law_stages", "_law_name", "_law_stage", "_law_found", "_law_rows", "_law_row", "_law_number"]
def spLNum (K : PySem.W.Frag) (T : List NTab) (i : Nat) : Sp := fun vs H Q _ => ∃ (d : Addr) (kvs : List (Key × V)) (nm : List Str) (ss : List Stg) (x : Str) (n : Nat) (dd : Int), vs = [.ref d, .str x] ∧ H d = some (.dK kvs) ∧ Stgs K H kvs nm ss ∧ nm[i]? = some x ∧ ChOk (ss.take (i + 1)).reverse n dd ∧
  ∀ (H' : Hp) (f : Addr) (fk : List (Key × V)), Kp T No H H' → (∀ H'', Kp T (On f) H' H'' → Kp T No H H'') → H' f = some (.dK fk) → NumD fk dd → fk.length ≤ 10000 + i → (∀ u v p, p < n → HasN fk (val (ss.take (i + 1)).reverse u v p)) → Q (.ref f) H'
theorem small_line {n : Nat} (h : n ≤ 16000000) : n ≤ sizeLine := Nat.le_of_lt (line_big h)
theorem num_put {fk : List (Key × V)} {d n : Int} {v : V} (h : NumD fk d) (hn : 0 ≤ n ∧ n ≤ d) : NumD (putK fk (.inl n) v) d := fun y hy => by
  rcases keys_put y hy with z | z
  · exact ⟨n, z, hn⟩
  · exact h y z
theorem has_put {fk : List (Key × V)} {m : Int} {k : Key} {v : V} (h : HasN fk m) : HasN (putK fk k v) m := by
  unfold HasN
  rw [valV_put]
  split
  · exact ⟨_, rfl⟩
  · exact h
theorem lnum_step (X : Tx w K mg) {m0 k : Nat} (A : Hd P w K mg base k (He.ga K "_law_numbers") (U (spLNum K T) m0)) : Hd P w K mg base (k + 1) (He.ga K "_law_numbers") (U (spLNum K T) (m0 + 1)) := by
  refine mk_hd X.F_law_numbers sc_law_numbers (fun _ _ _ _ ⟨_, _, _, _, _, _, _, _, _, e, _⟩ => by rw [e]; rfl) (fun cdv A' outer s H vs Q E hr h => ?_)
  obtain ⟨i, him, d, kvs, nm, ss, x, n, dd, rfl, hd, S, hx, ok, q⟩ := h
  have nd := sc_law_numbers.nd
  obtain ⟨sg, sa, of, es, ea, hsa, hmade⟩ := S.get hx
  rw [chain_eq es] at ok q
  refine ⟨_, pss_cons (ps_set (i := 2) nd rfl (.inr rfl) (pe_dget (hu_of hr) (pv 0) (pv 1) (fun _ _ => rfl)))
    (pss_cons (ps_if (pt_cmpR op_eq (pe_ix ix_tup (pv 2) pe_int (fun _ _ => rfl)) pe_str (nomark _))
      (pss_cons (ps_set (i := 3) nd rfl (.inl rfl) pe_dnewK)
      (pss_cons (ps_for PassesOwn.never rfl (pi_tup (pe_fld (pe_ix ix_tup (pv 2) pe_int (fun _ _ => rfl)) rfl)) (pg_name (i := 4) nd rfl (.inl rfl))
        (pss_one (ps_for PassesOwn.never rfl (pi_tup (pv 4)) (pg_name (i := 5) nd rfl (.inl rfl))
          (pss_one (ps_expr (pe_bm PySem.F.plainAttrs_dict PySem.F.slot_dict_update PySem.F.type_dict_update mt_updD (pv 3) (pa_cons (pe_callTy (call_dictP rfl) (by rfl) X.f_dict bb_dict (pa_cons (pe_lc (own := [("_law_number", 6)]) (g := gName 6) (by rfl) nd (pi_tup (pv 5)) (blkOk_by (N := nbN) (sc := defScope s_law_numbers) (by decide +kernel))
            (fun _ _ _ _ _ => pg_name (i := 6) nd rfl (Or.inl rfl)) (fun _ _ _ _ _ => pts_nil) (fun _ _ _ _ _ => pe_tup (pa_cons (pv 6) (pa_cons pe_bl pa_nil)))) pa_nil)) pa_nil)))))))
      (pss_cons (ps_if (pt_not (pt_val (pe_is X.f_isinstance X.f_str (pe_ix ix_tup (pv 2) pe_int (fun _ _ => rfl)) bb_str))) (pss_one (ps_dput (hu_of hr) (pv 3) (pe_ix ix_tup (pv 2) pe_int (fun _ _ => rfl)) pe_bl rfl)) pss_nil)
      (pss_one (ps_ret (pv 3)))))) pss_nil)
    (pss_cons (ps_set (i := 3) nd rfl (.inl rfl) (pe_h A hr X.g_law_numbers (pa_cons (pv 0) (pa_cons (pe_ix ix_tup (pv 2) pe_int (fun _ _ => rfl)) pa_nil))))
    (pss_cons (ps_if (PW.pt (pw_and (pt_cmpR op_eq (pe_ix ix_tup (pv 2) pe_int (fun _ _ => rfl)) pe_str (nomark _)) (pw_and1 (pt_not (pt_val (pe_is X.f_isinstance X.f_str (pe_ix ix_tup (pv 2) pe_int (fun _ _ => rfl)) bb_str)))))) (pss_one (ps_dput (hu_of hr) (pv 3) (pe_ix ix_tup (pv 2) pe_int (fun _ _ => rfl)) pe_bl rfl)) pss_nil)
    (pss_cons (ps_if (pt_cmpR op_eq (pe_ix ix_tup (pv 2) pe_int (fun _ _ => rfl)) pe_str (nomark _))
      (pss_one (ps_set (i := 3) nd rfl (.inl rfl) (pe_callTy (call_dictP rfl) (by rfl) X.f_dict bb_dict (pa_cons (pe_lock (pe_lc (own := [("_law_number", 6)]) (g := gName 6) (by rfl) nd (pi_keys (pv 3)) (blkOk_by (N := nbN) (sc := defScope s_law_numbers) (by decide +kernel))
        (fun _ _ _ _ _ => pg_name (i := 6) nd rfl (Or.inl rfl)) (fun _ _ _ _ _ => pts_nil) (fun _ _ _ _ _ => pe_tup (pa_cons (pe_at K rfl (pe_at K rfl (pv 2) pe_int) (pv 6)) (pa_cons pe_bl pa_nil))))) pa_nil)))) pss_nil)
    (pss_one (ps_ret (pv 3))))))), ?_⟩
  refine ⟨_, rfl, _, rfl, d, .ref sa, rfl, dget_k (k := .inr x) hd ea, ?_⟩
  obtain ⟨r, ht, _, _⟩ := hsa.tup2
  refine ⟨_, rfl, _, _, _, _, rfl, rfl, SqT.of ht, atI_nat (j := 0) rfl, rfl, _, rfl, ?_⟩
  rcases nargs01 sg with ⟨pic, b, rfl⟩ | hn
  · obtain ⟨pa, hs, dx, t, hp, hpl⟩ := hsa
    obtain ⟨e0, pok, bok, rfl, rfl⟩ := ok
    refine iteD (fun _ => ?_) fun z => absurd rfl z
    refine fun f hf => ?_
    have k1 : Kp T No H (upd H f (.dK [])) := .new hf
    obtain ⟨rs, hpt, ha⟩ := hpl
    have hs1 := k1.tp _ _ hs
    have n1 := pok.n1
    refine ⟨_, rfl, _, _, _, _, rfl, rfl, SqT.of hs1, atI_nat (j := 1) rfl, ?_⟩
    refine ⟨_, _, _, _, _, rfl, k1.ins hp id, X.c_Picture, X.n_Picture_planes, picF_planes _ _, t, rfl, ⟨_, SqT.of (k1.tp _ _ hpt)⟩, ?_⟩
    refine for_tup (xs := rs.map V.ref) (fun k σ H' => ∃ (rv wv : Option V) (fk : List (Key × V)), σ = [some (.ref d), some (.str x), some (.ref sa), some (.ref f), rv, wv, none] ∧ Kp T (On f) H H' ∧ H' f = some (.dK fk) ∧ NumD fk pic.depth ∧ fk.length ≤ k * 2304 ∧ ∀ j pl, j < k → pic.planes[j]? = some pl → ∀ row ∈ pl, ∀ m ∈ row, HasN fk m) ?_ (fun k σ H' _ hv => by obtain ⟨_, _, _, _, kk, _⟩ := hv; exact SqT.of (kk.tp _ _ hpt)) (fun k y σ H2 hy hv => ?_) fun σ H2 hv => ?_
    · exact ⟨none, none, [], rfl, k1.any, upd_same, (fun y hy => nomatch hy), Nat.zero_le _, fun j pl hj => absurd hj (Nat.not_lt_zero _)⟩
    · obtain ⟨rv, wv, fk, rfl, k2, hf2, nums, len, has⟩ := hv
      have hkl : k < pic.planes.length := by
        have := (List.getElem?_eq_some_iff.mp hy).1
        rw [List.length_map, ha.len] at this
        exact this
      obtain ⟨r1, er1, rs1, ht1, ha1⟩ := ha.get (List.getElem?_eq_getElem hkl)
      have hm : pic.planes[k] ∈ pic.planes := List.getElem_mem hkl
      rw [map_at er1] at hy
      obtain rfl := (Option.some.inj hy).symm
      have hrows := pok.rows _ hm
      have hcols := pok.cols _ hm
      have hnums := pok.nums _ hm
      have h1 := pok.h1
      have w1 := pok.w1
      have ekk : pic.planes[k]? = some pic.planes[k] := List.getElem?_eq_getElem hkl
      generalize pic.planes[k] = pl at hm hrows hcols hnums ha1 ekk
      refine ⟨_, rfl, r1, rfl, ⟨_, SqT.of (k2.tp _ _ ht1)⟩, ?_⟩
      refine for_tup (xs := rs1.map V.ref) (fun j σ H' => ∃ (wv : Option V) (fk : List (Key × V)), σ = [some (.ref d), some (.str x), some (.ref sa), some (.ref f), some (.ref r1), wv, none] ∧ Kp T (On f) H H' ∧ H' f = some (.dK fk) ∧ NumD fk pic.depth ∧ fk.length ≤ k * 2304 + j * 48 ∧ (∀ j pl, j < k → pic.planes[j]? = some pl → ∀ row ∈ pl, ∀ m ∈ row, HasN fk m) ∧ ∀ j' row, j' < j → pl[j']? = some row → ∀ m ∈ row, HasN fk m) ?_ (fun k σ H' _ hv => by obtain ⟨_, _, _, kk, _⟩ := hv; exact SqT.of (kk.tp _ _ ht1)) (fun j y σ H3 hy hv => ?_) fun σ H3 hv => ?_
      · exact ⟨wv, fk, rfl, k2, hf2, nums, by omega, has, fun j' row hj => absurd hj (Nat.not_lt_zero _)⟩
      · obtain ⟨wv, fk, rfl, k3, hf3, nums, len, has, hasr⟩ := hv
        have hjl : j < pl.length := by
          have := (List.getElem?_eq_some_iff.mp hy).1
          rw [List.length_map, ha1.len] at this
          exact this
        obtain ⟨r2, er2, hr2⟩ := ha1.get (List.getElem?_eq_getElem hjl)
        have hm2 : pl[j] ∈ pl := List.getElem_mem hjl
        have ejj : pl[j]? = some pl[j] := List.getElem?_eq_getElem hjl
        rw [map_at er2] at hy
        obtain rfl := (Option.some.inj hy).symm
        have rl := hcols _ hm2
        have rn := hnums _ hm2
        generalize pl[j] = row at hm2 rl rn hr2 ejj
        have hr3 := k3.tp _ _ hr2
        refine ⟨_, rfl, .inr (.inr (.inl ⟨rfl, .inl ⟨_, hf3⟩⟩)), ?_⟩
        refine ⟨_, rfl, r2, rfl, ⟨_, SqT.of hr3⟩, fun D hD => lc_mapT (T := T) (M := No) (R := RPr row) (G := G0) hD hr3 True.intro (fun i' y' H4 hy' p4 => ?_) fun H4 acc k4 e4 el4 ha4 _ => ?_⟩
        · obtain ⟨m, em, rfl⟩ := nth_int hy'
          refine ⟨rfl, ?_⟩
          refine ⟨_, rfl, small2, fun tt htt => ?_⟩
          have hl' := (List.getElem?_eq_some_iff.mp em).1
          exact p4.next RPr.tst id hD (.new htt) (line_big (by omega)) ⟨tt, m, rfl, em, upd_same⟩ fun _ => True.intro
        · obtain ⟨ps, rfl, hps⟩ := acc_refs (F := fun j r => ∃ m : Int, row[j]? = some m ∧ H4 r = some (.tup [.int m, .bl true])) fun j v e => by
            obtain ⟨t, m, a1, a2, a3⟩ := ha4 j v e
            exact ⟨t, a1, m, a2, a3⟩
          rw [List.length_map, List.length_map] at el4
          have pr : Paired (fun p kv => SqT K H4 p [kV kv.1, kv.2]) ps (trues row) := paired_of (by rw [el4, List.length_map]) fun j a kv e1 e2 => by
            obtain ⟨m, a2, a3⟩ := hps j a e1
            rw [List.getElem?_map, a2] at e2
            rw [← Option.some.inj e2]
            exact SqT.of a3
          refine ⟨D, ps, trues row, rfl, SqL.of e4, pr, fun nd hnd => ?_⟩
          have hf4 := k4.dK hf3 id
          have k5 : Kp T No H4 (upd H4 nd (.dK (mergeK [] (trues row)))) := .new hnd
          have hf5 := k5.dK hf4 id
          have lm := merge_len (trues row) []
          have lm2 := merge_len (mergeK [] (trues row)) fk
          rw [List.length_map] at lm
          have ln : ([] : List (Key × V)).length = 0 := rfl
          have hb := pok.n1
          refine ⟨f, nd, fk, _, rfl, rfl, hf5, upd_same, ne_of_none hf4 hnd, small_line (by omega), ?_⟩
          have k6 := Kp.put (T := T) (o' := .dK (mergeK fk (mergeK [] (trues row)))) hf5 True.intro
          have grow : ∀ m, HasN fk m → HasN (mergeK fk (mergeK [] (trues row))) m := fun m h => merge_has (.inl h)
          refine ⟨_, _, rfl, (k3.trN (k4.tr k5)).tr k6, upd_same, fun y hy => ?_, by omega, fun j' pl' hj' ep row' hr' m hm' => grow m (has j' pl' hj' ep row' hr' m hm'), fun j' row' hj' er m hm' => ?_⟩
          · rcases keys_merge hy with z | z
            · rcases keys_merge z with z | z
              · obtain ⟨m, hmr, e⟩ := trues_keys.mp z
                exact ⟨m, e, rn m hmr⟩
              · exact nomatch z
            · exact nums y z
          · by_cases hjj : j' < j
            · exact grow m (hasr j' row' hjj er m hm')
            · have e1 : j' = j := by omega
              subst e1
              obtain rfl := Option.some.inj (er.symm.trans ejj)
              refine merge_has (.inr ?_)
              by_cases hmem : (Sum.inl m : Key) ∈ (mergeK [] (trues row')).map (·.1)
              · exact hmem
              · have h0 := valV_no hmem
                obtain ⟨v, hv⟩ := merge_has (kvs := []) (.inr (trues_keys.mpr ⟨m, hm', rfl⟩))
                rw [hv] at h0
                cases h0
      · obtain ⟨wv, fk, rfl, k3, hf3, nums, len, has, hasr⟩ := hv
        rw [List.length_map, ha1.len, hrows] at len
        refine ⟨_, _, fk, rfl, k3, hf3, nums, by omega, fun j pl' hj ep row hr m hm' => ?_⟩
        by_cases hjk : j < k
        · exact has j pl' hjk ep row hr m hm'
        · have e1 : j = k := by omega
          subst e1
          obtain rfl := Option.some.inj (ep.symm.trans ekk)
          obtain ⟨j', ej'⟩ := List.getElem?_of_mem hr
          refine hasr j' row ?_ ej' m hm'
          rw [List.length_map, ha1.len]
          exact (List.getElem?_eq_some_iff.mp ej').1
    · obtain ⟨rv, wv, fk, rfl, k2, hf2, nums, len, has⟩ := hv
      rw [List.length_map, ha.len] at len has
      have hs2 := k2.tp _ _ hs
      have own : ∀ H'', Kp T (On f) H2 H'' → Kp T No H H'' := fun H'' k => (k2.tr k).own hf
      have at_has : ∀ u v p, p < pic.planes.length → inW pic.win u v → HasN fk (pic.at_ p u v) := fun u v p hp hin => by
        obtain ⟨plane, row, e1, e2, e3⟩ := Pic.at_mem pok hp hin
        exact has p plane hp e1 row (List.mem_of_getElem? e2) _ (List.mem_of_getElem? e3)
      have lb : fk.length ≤ 9216 := by
        have := Nat.mul_le_mul_right 2304 n1
        omega
      refine ⟨_, rfl, _, _, _, _, rfl, rfl, SqT.of hs2, atI_nat (j := 2) rfl, bd_str b H2 _ (fun m eb => ⟨_, rfl, iteT ?_⟩) fun eb => ⟨_, rfl, iteF ?_⟩⟩
      · subst eb
        refine ⟨_, rfl, _, rfl, _, _, _, _, rfl, rfl, SqT.of hs2, atI_nat (j := 2) rfl, f, _, rfl, DPut.k (k := .inl m) hf2 (line_big (by omega)), ?_⟩
        have k3 := Kp.put (T := T) (o' := .dK (putK fk (.inl m) (.bl true))) hf2 True.intro
        have hb := bok m rfl
        have pl := putK_len fk (.inl m) (.bl true)
        refine ⟨_, rfl, q _ f _ (own _ k3) (fun H'' k => own H'' (k3.tr k)) upd_same (num_put nums hb) (by omega) fun u v p hp => ?_⟩
        simp only [val]
        cases e : back (.num m) pic.win u v with
        | none =>
          show HasN _ m
          unfold HasN
          rw [valV_put, if_pos rfl]
          exact ⟨_, rfl⟩
        | some c => exact has_put (at_has _ _ p hp (back_in pok.win.ow.1 pok.win.oh.1 e))
      · refine ⟨_, rfl, q _ f _ (own _ .refl) own hf2 nums (by omega) fun u v p hp => ?_⟩
        simp only [val]
        cases e : back b pic.win u v with
        | none =>
          obtain ⟨m, rfl⟩ := back_none e
          cases eb
        | some c => exact at_has _ _ p hp (back_in pok.win.ow.1 pok.win.oh.1 e)
  · refine iteD (fun z => absurd z (kind_src hn)) fun _ => ?_
    obtain ⟨r, ht⟩ := hsa.of_at hn
    obtain ⟨j, rfl, hj⟩ := S.below hx hn hmade
    have hbelow : ∃ d0, ChOk (ss.take (j + 1)).reverse n d0 := ok.tail (by
      intro z
      have := congrArg List.length z
      rw [List.length_reverse, List.length_take] at this
      have h1 := S.len
      have h2 := (List.getElem?_eq_some_iff.mp hx).1
      have e0 : ([] : List Stg).length = 0 := rfl
      omega)
    obtain ⟨d0, okb⟩ := hbelow
    refine ⟨_, rfl, _, rfl, _, _, _, _, rfl, rfl, SqT.of ht, atI_nat (j := 1) rfl, ?_⟩
    refine ⟨j, by omega, d, kvs, nm, ss, of, n, d0, rfl, hd, S, hj, okb, fun H1 f fk k1 own hf nums len has => ?_⟩
    have ht1 := k1.tp _ _ ht
    refine ⟨_, rfl, _, _, _, _, rfl, rfl, SqT.of ht1, atI_nat (j := 0) rfl, rfl, _, rfl, ?_⟩
    have jb : j + 1 < 24 := by
      have h1 := S.few
      have h2 := (List.getElem?_eq_some_iff.mp hx).1
      omega
    have rest : ∀ (H2 : Hp) (fk : List (Key × V)), Kp T No H H2 → (∀ H'', Kp T (On f) H2 H'' → Kp T No H H'') → H2 f = some (.dK fk) → NumD fk dd → fk.length ≤ 10000 + (j + 1) → (∀ u v p, p < n → HasN fk (val (sg :: (ss.take (j + 1)).reverse) u v p)) → Q (.ref f) H2 :=
      fun H2 fk k own hf nums len has => q H2 f fk k own hf nums len has
    by_cases hc : gCur sg
    · obtain ⟨tb, dp, rfl⟩ := hc
      obtain ⟨d1, ok1, tok⟩ := ok
      obtain ⟨_, rfl⟩ := ChOk.det ok1 okb
      obtain ⟨ta, hs, hta⟩ := hsa.kp k1 NoPic.no
      refine iteD (fun z => absurd (V.str.inj z) (by simp only [Stg.kind]; decide +kernel)) fun _ => ?_
      refine ⟨_, rfl, _, _, _, _, rfl, rfl, SqT.of hs, atI_nat (j := 0) rfl, rfl, _, rfl, iteD (fun _ => ?_) fun z => absurd rfl z⟩
      refine ⟨f, .dK fk, hf, True.intro, fun od => ?_⟩
      have kl : Kp T (On f) H1 (upd H1 f (.frz od (.dK fk))) := .put hf True.intro
      have hsl := kl.tp _ _ hs
      have htal := kl.tp _ _ hta
      have key : ∀ i', i' < fk.length → ∃ m : Int, (fk.map (·.1))[i']? = some (.inl m) ∧ 0 ≤ m ∧ m ≤ d1 := fun i' hi' => by
        have e : (fk.map (·.1))[i']? = some fk[i'].1 := by rw [List.getElem?_map, List.getElem?_eq_getElem hi']; rfl
        obtain ⟨m, em, hm⟩ := nums _ (List.mem_of_getElem? e)
        exact ⟨m, by rw [e, em], hm⟩
      have hfz : (upd H1 f (.frz od (.dK fk))) f = some (.frz od (.dK fk)) := upd_same
      generalize hHz : upd H1 f (.frz od (.dK fk)) = Hz at kl hsl htal hfz
      let item : Nat → V := fun i' => match (fk.map (·.1))[i']? with
        | some y => kV y
        | none => .non
      let out : List Int := (fk.map (·.1)).map fun y => match y with
        | .inl m => tb.getD m.toNat 0
        | .inr _ => 0
      have outl : out.length = fk.length := by show (List.map _ _).length = _; rw [List.length_map, List.length_map]
      refine ⟨_, rfl, f, od, rfl, .inl ⟨fk, hfz, fun D hD => lc_mapJ (T := T) (R := RPr out) (n := fk.length) (it := item) hD (fun i' H' k' hi' => ⟨k'.frz hfz id, hi'⟩) (fun H' k' => ⟨k'.frz hfz id, Nat.le_refl _⟩) (fun i' H' v H'' hi' ⟨e1, y, v', e2, e3⟩ => ⟨e1, ?_⟩) (fun i' H' hi' p => ?_) fun H' acc k' e' el' ha' _ => ⟨k'.frz hfz id, ?_⟩⟩⟩
      · rw [e3]
        show kV y = (match (fk.map (·.1))[i']? with | some y => kV y | none => .non)
        rw [List.getElem?_map, e2]
        rfl
      · obtain ⟨m, em, m0, m1⟩ := key i' hi'
        have ei : item i' = .int m := by
          show (match (fk.map (·.1))[i']? with | some y => kV y | none => .non) = _
          rw [em]
          rfl
        rw [ei]
        refine ⟨rfl, ?_⟩
        refine ⟨_, rfl, _, _, _, _, rfl, rfl, SqT.of (p.kp.tp _ _ hsl), atI_nat (j := 2) rfl, _, rfl, _, _, _, _, rfl, rfl, SqT.of (p.kp.tp _ _ htal), atI_int m0 (map_at (Tab_at tok m0 m1)), small2, fun tt htt => ?_⟩
        refine p.next RPr.tst id hD (.new htt) (line_big (by omega)) ⟨tt, tb.getD m.toNat 0, rfl, ?_, upd_same⟩ fun _ => True.intro
        show ((fk.map (·.1)).map _)[i']? = _
        rw [List.getElem?_map, em]
        rfl
      · obtain ⟨ps, rfl, hps⟩ := acc_refs (F := fun j r => ∃ m : Int, out[j]? = some m ∧ H' r = some (.tup [.int m, .bl true])) fun j v e => by
          obtain ⟨t, m, a1, a2, a3⟩ := ha' j v e
          exact ⟨t, a1, m, a2, a3⟩
        rw [List.length_map] at el'
        have hfz' := k'.frz hfz id
        have ku := Kp.unlock (T := T) (o' := .dK fk) hfz'
        have Df : D ≠ f := (ne_of_none hfz hD).symm
        have pr : Paired (fun p kv => SqT K (upd H' f (.dK fk)) p [kV kv.1, kv.2]) ps (trues out) := paired_of (by rw [List.length_map, outl, el']) fun j a kv e1 e2 => by
          obtain ⟨m, a2, a3⟩ := hps j a e1
          rw [List.getElem?_map, a2] at e2
          rw [← Option.some.inj e2]
          exact SqT.of (ku.tp _ _ a3)
        refine ⟨D, ps, trues out, rfl, SqL.of (ku.lst e' Df), pr, fun nd hnd => ?_⟩
        have kt : Kp T No H (upd H' f (.dK fk)) := own _ ((kl.trN k').tr ku)
        have kn := Kp.new (T := T) (M := No) (o := .dK (mergeK [] (trues out))) hnd
        have lm := merge_len (trues out) []
        rw [List.length_map, outl] at lm
        have ln : ([] : List (Key × V)).length = 0 := rfl
        refine ⟨_, rfl, q _ nd _ (kt.tr kn) (fun H'' k'' => kt.tr ((kn.any.tr k'').own hnd)) upd_same (fun y hy => ?_) (by omega) fun u v p hp => ?_⟩
        · rcases keys_merge hy with z | z
          · obtain ⟨m, hm, e⟩ := trues_keys.mp z
            refine ⟨m, e, ?_⟩
            obtain ⟨i', hi'⟩ := List.getElem?_of_mem hm
            have hl' := (List.getElem?_eq_some_iff.mp hi').1
            obtain ⟨m', em', m0, m1⟩ := key i' (by omega)
            have e2 : out[i']? = some (tb.getD m'.toNat 0) := by
              show ((fk.map (·.1)).map _)[i']? = _
              rw [List.getElem?_map, em']
              rfl
            rw [e2] at hi'
            rw [← Option.some.inj hi']
            exact tok.nums _ (List.mem_of_getElem? (Tab_at tok m0 m1))
          · exact nomatch z
        · simp only [val]
          obtain ⟨v0, hv0⟩ := has u v p hp
          refine merge_has (.inr (trues_keys.mpr ⟨_, ?_, rfl⟩))
          have hmem : (Sum.inl (val (ss.take (j + 1)).reverse u v p) : Key) ∈ fk.map (·.1) := by
            by_cases h : (Sum.inl (val (ss.take (j + 1)).reverse u v p) : Key) ∈ fk.map (·.1)
            · exact h
            · rw [valV_no h] at hv0
              cases hv0
          exact List.mem_map.mpr ⟨_, hmem, rfl⟩
    · by_cases hfr : gFra sg
      · obtain ⟨win, b, rfl⟩ := hfr
        obtain ⟨ok1, wok, bok⟩ := ok
        obtain ⟨_, rfl⟩ := ChOk.det ok1 okb
        obtain ⟨wa, hs, hw⟩ := hsa.kp k1 NoPic.no
        refine iteD (fun _ => ?_) fun z => absurd rfl z
        refine ⟨_, rfl, _, _, _, _, rfl, rfl, SqT.of hs, atI_nat (j := 3) rfl, bd_str b H1 _ (fun m eb => ⟨_, rfl, iteT ?_⟩) fun eb => ⟨_, rfl, iteF ?_⟩⟩
        · subst eb
          refine ⟨_, rfl, _, rfl, _, _, _, _, rfl, rfl, SqT.of hs, atI_nat (j := 3) rfl, f, _, rfl, DPut.k (k := .inl m) hf (line_big (by omega)), ?_⟩
          have k3 := Kp.put (T := T) (o' := .dK (putK fk (.inl m) (.bl true))) hf True.intro
          have hb := bok m rfl
          have pl := putK_len fk (.inl m) (.bl true)
          refine ⟨_, rfl, _, _, _, _, rfl, rfl, SqT.of (k3.tp _ _ hs), atI_nat (j := 0) rfl, rfl, _, rfl, iteD (fun z => absurd (V.str.inj z) (by decide +kernel)) fun _ => ?_⟩
          refine ⟨_, rfl, rest _ _ (own _ k3) (fun H'' k => own H'' (k3.tr k)) upd_same (num_put nums hb) (by omega) fun u v p hp => ?_⟩
          simp only [val]
          cases e : back (.num m) win u v with
          | none =>
            show HasN _ m
            unfold HasN
            rw [valV_put, if_pos rfl]
            exact ⟨_, rfl⟩
          | some c => exact has_put (has _ _ p hp)
        · refine ⟨_, rfl, _, _, _, _, rfl, rfl, SqT.of hs, atI_nat (j := 0) rfl, rfl, _, rfl, iteD (fun z => absurd (V.str.inj z) (by decide +kernel)) fun _ => ?_⟩
          refine ⟨_, rfl, rest _ _ k1 own hf nums (by omega) fun u v p hp => ?_⟩
          simp only [val]
          cases e : back b win u v with
          | none =>
            obtain ⟨m, rfl⟩ := back_none e
            cases eb
          | some c => exact has _ _ p hp
      · have hk : gKeep sg := by
          cases sg with
          | source p b => exact absurd hn (by show ¬ ((0 : Nat) = 1); decide)
          | framed win b => exact absurd ⟨_, _, rfl⟩ hfr
          | moved a c => exact .inl ⟨_, _, rfl⟩
          | flipped b => exact .inr (.inl ⟨_, rfl⟩)
          | turned => exact .inr (.inr rfl)
          | curved t dp => exact absurd ⟨_, _, rfl⟩ hc
        have hkf : ¬ (V.str sg.kind = V.str "framed") := by
          rcases hk with ⟨_, _, rfl⟩ | ⟨_, rfl⟩ | rfl <;> exact fun z => absurd (V.str.inj z) (by simp only [Stg.kind]; decide +kernel)
        have e0 : d0 = dd := by
          rcases hk with ⟨_, _, rfl⟩ | ⟨_, rfl⟩ | rfl
          · exact (ChOk.det okb ok.1).2
          · exact (ChOk.det okb ok).2
          · exact (ChOk.det okb ok).2
        subst e0
        refine iteD (fun z => absurd z hkf) fun _ => ?_
        refine ⟨_, rfl, _, _, _, _, rfl, rfl, SqT.of ht1, atI_nat (j := 0) rfl, rfl, _, rfl, iteD (fun z => absurd z (kind_cur hc)) fun _ => ?_⟩
        refine ⟨_, rfl, rest _ _ k1 own hf nums (by omega) fun u v p hp => ?_⟩
        rw [val_place hk]
        exact has _ _ p hp
theorem ok_lnum (X : Tx w K mg) : ∀ m, Hd P w K mg base (m + 1) (He.ga K "_law_numbers") (U (spLNum K T) m)
  | 0 => mk_hd (k := 0) X.F_law_numbers sc_law_numbers (fun _ _ _ _ ⟨_, h, _⟩ => absurd h (Nat.not_lt_zero _)) (fun _ _ _ _ _ _ _ _ _ ⟨_, h, _⟩ => absurd h (Nat.not_lt_zero _))
  | m + 1 => lnum_step X (ok_lnum X m)
end
end K9

set_option maxHeartbeats 4000000
namespace K9
open PySem PySem.Spec PyProof.Rows L2 NdefX LamX
theorem cut_one (xs : List V) : cutV xs (some 1) none = xs.drop 1 := by
  unfold cutV
  rw [show (1 : Int) = ((1 : Nat) : Int) from rfl, HT.sIx_nat, HT.sIx_none]
  cases xs with
  | nil => rfl
  | cons k r =>
    have e : min 1 (k :: r).length = 1 := by rw [List.length_cons]; omega
    rw [e]
    exact List.take_of_length_le (by rw [List.length_drop]; exact Nat.le_refl _)
theorem atI_last {xs : List V} {v : V} (h : xs[xs.length - 1]? = some v) : atI xs (-1) = some v := by
  have h0 := (List.getElem?_eq_some_iff.mp h).1
  unfold atI ixN
  rw [if_neg (by decide), if_pos (by omega)]
  show xs[((-1 : Int) + (xs.length : Int)).toNat]? = some v
  rw [show ((-1 : Int) + (xs.length : Int)).toNat = xs.length - 1 by omega]
  exact h
theorem PenAt.kpM {T : List NTab} {M : Addr → Prop} {H H' : Hp} {pen l : Addr} {b : Nat} (h : PenAt H pen l b) (k : Kp T M H H') (n1 : ¬ M pen) (n2 : ¬ M l) : PenAt H' pen l b := by
  obtain ⟨a, r, ns, h1, h2, h3⟩ := h
  exact ⟨a, r, ns, k.lst h1 n1, k.lst h2 n2, h3⟩
/-- no dict and no object is the pen or its list -/
theorem PenAt.ne1 {H : Hp} {pen l q : Addr} {b : Nat} {o : HO} (h : PenAt H pen l b) (e : H q = some o) (n : ∀ xs, HO.lst xs ≠ o) : pen ≠ q := by
  obtain ⟨a, r, ns, h1, _⟩ := h
  exact ne_of h1 e (n _)
theorem PenAt.ne2 {H : Hp} {pen l q : Addr} {b : Nat} {o : HO} (h : PenAt H pen l b) (e : H q = some o) (n : ∀ xs, HO.lst xs ≠ o) : l ≠ q := by
  obtain ⟨a, r, ns, _, h1, _⟩ := h
  exact ne_of h1 e (n _)
def NetL (K : PySem.W.Frag) (H : Hp) (na ld : Addr) (nm : List Str) (ss : List Stg) : Prop := ∃ dx d h kvs kh, NetD K H na dx d h kvs kh nm ss ∧ d ≠ ld ∧ h ≠ ld
theorem NetN.toL {K : PySem.W.Frag} {H0 H : Hp} {na ld : Addr} {nm : List Str} {ss : List Stg} {l0 : List (Key × V)} (h : NetN K H0 H na nm ss) (e : H0 ld = some (.dK l0)) : NetL K H na ld nm ss := by
  obtain ⟨dx, d, h, kvs, kh, N, f⟩ := h
  exact ⟨dx, d, h, kvs, kh, N, (f _ _ e).1, (f _ _ e).2⟩
theorem NetL.o {K : PySem.W.Frag} {H : Hp} {na ld : Addr} {nm : List Str} {ss : List Stg} (h : NetL K H na ld nm ss) : NetO K H na nm ss := by
  obtain ⟨dx, d, h, kvs, kh, N, _, _⟩ := h
  exact ⟨dx, d, h, kvs, kh, N⟩
theorem NetL.kn {K : PySem.W.Frag} {T : List NTab} {H H' : Hp} {na ld : Addr} {nm : List Str} {ss : List Stg} (h : NetL K H na ld nm ss) (k : Kp T No H H') : NetL K H' na ld nm ss := by
  obtain ⟨dx, d, h, kvs, kh, N, f⟩ := h
  exact ⟨dx, d, h, kvs, kh, N.kn k, f⟩
theorem NetL.pen {K : PySem.W.Frag} {T : List NTab} {H H' : Hp} {na ld pen l : Addr} {b : Nat} {nm : List Str} {ss : List Stg} (h : NetL K H na ld nm ss) (p : PenAt H pen l b) (k : Kp T (On pen) H H') : NetL K H' na ld nm ss := by
  obtain ⟨dx, d, h, kvs, kh, N, f⟩ := h
  exact ⟨dx, d, h, kvs, kh, N.kp k (fun z => p.ne1 N.ins (fun _ z => nomatch z) z.symm) (fun z => p.ne1 N.st (fun _ z => nomatch z) z.symm) (fun z => p.ne1 N.sh (fun _ z => nomatch z) z.symm) p.noPic, f⟩
theorem NetL.ld {K : PySem.W.Frag} {T : List NTab} {H H' : Hp} {na ld : Addr} {l0 : List (Key × V)} {nm : List Str} {ss : List Stg} (h : NetL K H na ld nm ss) (e : H ld = some (.dK l0)) (k : Kp T (On ld) H H') : NetL K H' na ld nm ss := by
  obtain ⟨dx, d, h, kvs, kh, N, f⟩ := h
  exact ⟨dx, d, h, kvs, kh, N.kp k (fun z => ne_of N.ins e (fun z => nomatch z) z) (fun z => f.1 z) (fun z => f.2 z) (NoPic.dK e), f⟩
theorem Stgs.nil {K : PySem.W.Frag} {H : Hp} : Stgs K H [] [] [] := ⟨rfl, List.nodup_nil, Nat.zero_le _, (fun x hx => nomatch hx), rfl, (fun i x s e => nomatch e), fun i hi => absurd hi (Nat.not_lt_zero _)⟩
/-- what the law holds between its steps -/
structure LI (K : PySem.W.Frag) (H : Hp) (pen pl nl ld na : Addr) (nm nq : List Str) (b n : Nat) (deep : Int) (kvs : List (Key × V)) (ss : List Stg) : Prop where
  tb : TabsN (tabs K) H
  pn : PenAt H pen pl b
  hn : H nl = some (.lst (nm.map V.str))
  nlp : nl ≠ pen
  hl : H ld = some (.dK kvs)
  S : Stgs K H kvs nq ss
  N : NetL K H na ld nq ss
  ok : ChOk ss.reverse n deep
theorem LI.kn {K : PySem.W.Frag} {H H' : Hp} {pen pl nl ld na : Addr} {nm nq : List Str} {b n : Nat} {deep : Int} {kvs : List (Key × V)} {ss : List Stg} (I : LI K H pen pl nl ld na nm nq b n deep kvs ss) (k : Kp (tabs K) No H H') : LI K H' pen pl nl ld na nm nq b n deep kvs ss :=
  ⟨k.tb I.tb, I.pn.kn k, k.lst I.hn id, I.nlp, k.dK I.hl id, I.S.kp k NoPic.no, I.N.kn k, I.ok⟩
theorem LI.pw {K : PySem.W.Frag} {H H' : Hp} {pen pl nl ld na : Addr} {nm nq : List Str} {b b' n : Nat} {deep : Int} {kvs : List (Key × V)} {ss : List Stg} (I : LI K H pen pl nl ld na nm nq b n deep kvs ss) (k : Kp (tabs K) (On pen) H H') (p : PenAt H' pen pl b') : LI K H' pen pl nl ld na nm nq b' n deep kvs ss :=
  ⟨k.tb I.tb, p, k.lst I.hn I.nlp, I.nlp, k.dK I.hl (fun z => I.pn.ne1 I.hl (fun _ z => nomatch z) z.symm), I.S.kp k I.pn.noPic, I.N.pen I.pn k, I.ok⟩
theorem LI.le {K : PySem.W.Frag} {H : Hp} {pen pl nl ld na : Addr} {nm nq : List Str} {b b' n : Nat} {deep : Int} {kvs : List (Key × V)} {ss : List Stg} (I : LI K H pen pl nl ld na nm nq b n deep kvs ss) (h : b ≤ b') : LI K H pen pl nl ld na nm nq b' n deep kvs ss :=
  ⟨I.tb, I.pn.le h, I.hn, I.nlp, I.hl, I.S, I.N, I.ok⟩
section
variable {P : Program} {w : World} {K : PySem.W.Frag} {mg : Str → Option Value} {base : Heap} {T : List NTab}
abbrev lawN : List Str := ["_law_script", "_law_pen_here", "_law_k", "_law_names_here", "_law_deep", "_law_picture_here", "_law_stages", "_law_net", "_law_j", "_law_stage", "_law_name", "_law_window_here", "_law_there", "_law_rows", "_law_row", "_law_number"]
theorem pe_net {Y : Cx} {j : Nat} {p pos : Pos} (X : Tx w K mg) (hK : Y.K = K) (hw : Y.w = w) (hm : Y.mg = mg) (hr : Room j Y.A) (hk : 2 ≤ j := by omega) (hg : Gl Y "Net" := by rfl) :
    PE Y (.Call (.Name "Net" p) [] [] pos) (tMake (He.ga K "Net") (spNetI K T) [] E0 tNil) := by
  subst hK hw hm
  obtain ⟨fd, ps, F, kp, hb⟩ := (ok_net_init (P := Y.prog) (base := Y.base) (T := T) X).ex
  exact pe_make0 (CX := CX0) X.m_Net F (hr.mono hk) hg X.g_Net hb .nil pass0
def spLaw (K : PySem.W.Frag) (T : List NTab) : Sp := fun vs H Q _ => ∃ (a : Addr) (ns : List Int), vs = [.ref a] ∧ SqL K H a (ns.map V.int) ∧ TabsN T H ∧ ∀ H', Q (.bl true) H'
/-- a def of this text whose record is known -/
theorem mk_fn {x qual : Str} {params : Arguments} {body : List Stmt} {scope : Scope} {f : Addr} {fd : FuncData} {N ps : List Str} {k : Nat} {sp : Sp} (F : FunD K x qual params body scope [] [] f fd) (S : FnScope N ps scope) (len : ∀ vs H Q E, sp vs H Q E → vs.length = ps.length)
    (hb : ∀ (cdv : Value) (A : Around) (outer : List Env) (s : Shared) (H : Hp) (vs : List V) (Q : VK) (E : XK), Room k (A.deeper (envOfC qual scope s.heap.objs.size f cdv)) → sp vs H Q E →
      ∃ t, PSs (cxOf CX0 P w K mg base N qual scope f cdv A outer s H E).nox body t ∧ t { nx := fun _ H' => Q .non H', rt := Q } (start N vs) H) : FnOk P w K mg base CX0 (k + 1) f fd ps sp :=
  F.ok S len fun cdv A outer s H vs Q E hr h => by
    obtain ⟨t, p, q⟩ := hb cdv A outer s H vs Q E hr h
    exact ⟨t, p.nox, q⟩
theorem ok_law (X : Tx w K mg) (TB : TBs base mg K) {fd : FuncData} (DF : FunD K "law" "law" (defArgs s_law) (defBody s_law) (defScope s_law) [] [] (He.ga K "law") fd) : FnOk P w K mg base CX0 80 (He.ga K "law") fd ["_law_script"] (spLaw K (tabs K)) := by
  refine mk_fn DF sc_law (fun _ _ _ _ ⟨_, _, e, _⟩ => by rw [e]; rfl) (fun cdv A' outer s H vs Q E hr h => ?_)
  obtain ⟨a, ns, rfl, ha, hT, q⟩ := h
  have nd := sc_law.nd
  have D : Hd P w K mg base 1 (He.ga K "_law_draw") (spDraw (tabs K)) := ok_draw X
  refine ⟨_, pss_cons (ps_set (i := 1) nd rfl (.inl rfl) (pe_h (ok_law_pen (T := tabs K) X) hr X.g_law_pen (pa_cons (pv 0) pa_nil)))
    (pss_cons (ps_for PassesOwn.never rfl (pi_range1 rfl X.f_range (pa_cons pe_int pa_nil)) (pg_name (i := 2) nd rfl (.inl rfl))
      (pss_cons (ps_set (i := 3) nd rfl (.inl rfl) (pe_h (ok_names (T := tabs K) X) hr X.g_law_names (pa_cons (pv 1) (pa_cons (pe_op op_add pe_int (pe_h D hr X.g_law_draw (pa_cons (pv 1) (pa_cons pe_int pa_nil)))) pa_nil))))
      (pss_cons (ps_set (i := 4) nd rfl (.inl rfl) (pe_ix ix_list (pe_lst (pa_cons pe_int (pa_cons pe_int (pa_cons (pe_op op_add pe_int (pe_h D hr X.g_law_draw (pa_cons (pv 1) (pa_cons pe_int pa_nil)))) pa_nil)))) (pe_h D hr X.g_law_draw (pa_cons (pv 1) (pa_cons pe_int pa_nil))) (fun _ _ => rfl)))
      (pss_cons (ps_set (i := 5) nd rfl (.inl rfl) (pe_h (ok_law_picture (T := tabs K) X) hr X.g_law_picture (pa_cons (pv 1) (pa_cons (pe_op op_add pe_int (pe_h D hr X.g_law_draw (pa_cons (pv 1) (pa_cons pe_int pa_nil)))) (pa_cons (pv 4) (pa_cons pe_int pa_nil))))))
      (pss_cons (ps_par (i := 6) (j := 7) (by rfl) nd rfl rfl (by decide) rfl rfl (pa_cons (pe_disp (pps_cons (pe_ix ix_list (pv 3) pe_int (fun _ _ => rfl)) (pe_tup (pa_cons pe_str (pa_cons (pv 5) (pa_cons (pe_h (ok_law_border (T := tabs K) X) hr X.g_law_border (pa_cons (pv 1) (pa_cons (pv 4) pa_nil))) pa_nil)))) pps_nil) rfl rfl (List.cons_ne_nil _ _) (by decide)) (pa_cons (pe_net (T := tabs K) X rfl rfl rfl hr) pa_nil)) (by rfl))
      (pss_cons (ps_expr (pe_hm (pv 7) X.c_Net X.me_Net_put (ok_put (T := tabs K) X) hr (pa_cons (pe_ix ix_list (pv 3) pe_int (fun _ _ => rfl)) (pa_cons (pe_dget (hu_of hr) (pv 6) (pe_ix ix_list (pv 3) pe_int (fun _ _ => rfl)) (fun _ _ => rfl)) pa_nil))))
      (pss_cons (ps_for PassesOwn.never rfl (pi_range2 rfl X.f_range (pa_cons pe_int (pa_cons (pe_callB call_len_seq (by rfl) X.f_len bb_len (pa_cons (pv 3) pa_nil)) pa_nil))) (pg_name (i := 8) nd rfl (.inl rfl))
        (pss_cons (ps_asg (pe_h (ok_link (T := tabs K) X) hr X.g_law_link (pa_cons (pv 1) (pa_cons (pe_ix ix_list (pv 3) (pe_op op_sub (pv 8) pe_int) (fun _ _ => rfl)) (pa_cons (pv 4) pa_nil)))) (pg_tup rfl (pgs_cons (pg_name (i := 9) nd rfl (.inl rfl)) (pgs_cons (pg_name (i := 4) nd rfl (.inl rfl)) pgs_nil))))
        (pss_cons (ps_dput (hu_of hr) (pv 6) (pe_ix ix_list (pv 3) (pv 8) (fun _ _ => rfl)) (pv 9) rfl)
        (pss_one (ps_expr (pe_hm (pv 7) X.c_Net X.me_Net_put (ok_put (T := tabs K) X) hr (pa_cons (pe_ix ix_list (pv 3) (pv 8) (fun _ _ => rfl)) (pa_cons (pv 9) pa_nil))))))))
      (pss_cons (ps_for PassesOwn.never rfl (pi_list (pe_slice sl_list (pv 3) (po_some pe_int) po_none)) (pg_name (i := 10) nd rfl (.inl rfl))
        (pss_cons (ps_set (i := 11) nd rfl (.inl rfl) (pe_h (ok_law_window (T := tabs K) X) hr X.g_law_window (pa_cons (pv 1) (pa_cons pe_int (pa_cons pe_int pa_nil)))))
        (pss_cons (ps_if (pt_not (pt_val (pe_h (ok_seen X TB 11) hr X.g_law_seen_right (pa_cons (pv 7) (pa_cons (pv 6) (pa_cons (pv 10) (pa_cons (pv 11) pa_nil))))))) (pss_one ps_never) pss_nil)
        (pss_one (ps_if (pt_not (pt_val (pe_h (ok_same (T := tabs K) X 1) hr X.g_law_same (pa_cons (pe_hm (pv 7) X.c_Net X.me_Net_shape (ok_nshape X) hr (pa_cons (pv 10) pa_nil)) (pa_cons (pe_h (ok_law_shape (T := tabs K) X 11) hr X.g_law_shape (pa_cons (pv 6) (pa_cons (pv 10) pa_nil))) pa_nil))))) (pss_one ps_never) pss_nil)))))
      (pss_cons (ps_set (i := 12) nd rfl (.inr rfl) (pe_h (ok_lnum (T := tabs K) X 11) hr X.g_law_numbers (pa_cons (pv 6) (pa_cons (pe_ix ix_list (pv 3) (pe_un un_neg pe_int) (fun _ _ => rfl)) pa_nil))))
      (pss_one (ps_for PassesOwn.never rfl (pi_tup (pe_fld (pe_hm (pv 7) X.c_Net X.me_Net_whole (ok_whole3 X TB 11) hr (pa_cons (pe_ix ix_list (pv 3) (pe_un un_neg pe_int) (fun _ _ => rfl)) (pa_cons (pe_h (ok_law_window (T := tabs K) X) hr X.g_law_window (pa_cons (pv 1) (pa_cons pe_int (pa_cons pe_int pa_nil)))) pa_nil))) rfl)) (pg_name (i := 13) nd rfl (.inl rfl))
        (pss_one (ps_for PassesOwn.never rfl (pi_tup (pv 13)) (pg_name (i := 14) nd rfl (.inl rfl))
          (pss_one (ps_if (pt_cmpR (op_neD hr.units) (pe_lc (own := [("_law_number", 15)]) (g := gName 15) (by rfl) nd (pi_tup (pv 14)) (blkOk_by (N := lawN) (sc := defScope s_law) (by decide +kernel))
            (fun _ _ _ _ _ => pg_name (i := 15) nd rfl (Or.inl rfl)) (fun _ _ _ _ _ => pts_one (pt_cmp (pc_dnotin (hu_of hr) (pv 15) (pv 12)))) (fun _ _ _ _ _ => pv 15)) (pe_lst pa_nil) (nomark _)) (pss_one ps_never) pss_nil)))))))))))))))
    (pss_one (ps_ret pe_bl))), ?_⟩
  refine ⟨_, rfl, a, ns, rfl, ha, fun H1 pen pl _ _ k1 hp1 => ?_⟩
  refine ⟨2, rfl, by decide, by decide, ?_⟩
  refine for_range (lo := 0) (n := 2) (fun k σ H' => ∃ (v2 v3 v4 v5 v6 v7 v8 v9 v10 v11 v12 v13 v14 : Option V), σ = [some (.ref a), some (.ref pen), v2, v3, v4, v5, v6, v7, v8, v9, v10, v11, v12, v13, v14, none] ∧ TabsN (tabs K) H' ∧ PenAt H' pen pl (1000 * k)) ?_ (fun k σ H2 hk hv => ?_) fun σ H2 hv => ?_
  · exact ⟨none, none, none, none, none, none, none, none, none, none, none, none, none, rfl, k1.tb hT, hp1⟩
  · obtain ⟨v2, v3, v4, v5, v6, v7, v8, v9, v10, v11, v12, v13, v14, rfl, hT2, hp2⟩ := hv
    obtain ⟨b, hbk⟩ : ∃ b, b = 1000 * k := ⟨_, rfl⟩
    rw [← hbk] at hp2
    have hb : b ≤ 1000 := by omega
    refine ⟨_, rfl, _, rfl, pen, pl, 10, b, rfl, hp2, by decide, by decide, by omega, fun r H3 r0 r1 k3 hp3 => ?_⟩
    obtain ⟨m, rfl⟩ := Int.eq_ofNat_of_zero_le r0
    have hm9 : m < 10 := by omega
    refine ⟨_, _, rfl, rfl, pen, pl, 2 + m, b + 1, by rw [Int.natCast_add]; rfl, hp3, by omega, by omega, fun H4 nl nm k4 hp4 nlp hnl hlen ndn okn => ?_⟩
    refine ⟨_, rfl, pen, pl, 300, _, rfl, hp4, by decide, by decide, by omega, fun r2 H5 r20 r21 k5 hp5 => ?_⟩
    refine ⟨_, _, rfl, rfl, small_tup (by show (3 : Nat) ≤ 1000; decide), fun sl hsl => ?_⟩
    have ks : Kp (tabs K) No H5 (upd H5 sl (.lst (([1, 255, 1 + r2] : List Int).map V.int))) := .new hsl
    have slp := hp5.there hsl
    refine ⟨_, rfl, pen, pl, 3, _, rfl, hp5.kn ks, by decide, by decide, by omega, fun r3 H6 r30 r31 k6 hp6 => ?_⟩
    obtain ⟨deep, hdeep, hat⟩ := pickI (l := [1, 255, 1 + r2]) r30 r31
    have d01 : 1 ≤ deep ∧ deep ≤ 300 := by
      simp only [List.mem_cons, List.not_mem_nil, or_false] at hdeep
      omega
    obtain ⟨d0, d1⟩ := d01
    refine ⟨_, _, _, _, rfl, rfl, SqL.of (k6.lst upd_same slp), hat, ?_⟩
    refine ⟨_, rfl, _, rfl, pen, pl, 3, _, rfl, hp6, by decide, by decide, by omega, fun r4 H7 r40 r41 k7 hp7 => ?_⟩
    obtain ⟨m4, rfl⟩ := Int.eq_ofNat_of_zero_le r40
    refine ⟨_, _, rfl, rfl, _, rfl, pen, pl, 1 + m4, _, deep, by rw [Int.natCast_add]; rfl, hp7, by omega, by omega, d0, by omega, by omega, fun H8 pa pic k8 hp8 hpa pok plen pdep => ?_⟩
    have k48 : Kp (tabs K) (On pen) H4 H8 := (((k5.trN ks).tr k6).tr k7).tr k8
    have hnl8 := k48.lst hnl nlp
    have hT8 := k48.tb (k4.tb (k3.tb hT2))
    replace hp8 := hp8.le (b' := b + 322) (by omega)
    obtain ⟨x0, hx0⟩ : ∃ x, nm[0]? = some x := ⟨_, List.getElem?_eq_getElem (by omega)⟩
    have hm0 : (nm.map V.str)[0]? = some (.str x0) := map_at hx0
    have okx0 := okn x0 (List.mem_of_getElem? hx0)
    refine fun ld hld => ?_
    have kd : Kp (tabs K) No H8 (upd H8 ld (.dK [])) := .new hld
    refine ⟨_, rfl, _, _, _, _, rfl, rfl, SqL.of (kd.lst hnl8 id), atI_nat (j := 0) hm0, ?_⟩
    refine ⟨_, rfl, _, rfl, _, rfl, pen, pl, _, deep, rfl, hp8.kn kd, d0, by omega, by omega, fun H9 bd k9 hp9 hbd => ?_⟩
    refine ⟨small_tup (by show (3 : Nat) ≤ 1000; decide), fun sa hsa => ?_⟩
    have k10 : Kp (tabs K) No H9 (upd H9 sa (.tup [.str "source", .ref pa, bdV bd])) := .new hsa
    have hsa10 : (upd H9 sa (.tup [.str "source", .ref pa, bdV bd])) sa = some (.tup [.str "source", .ref pa, bdV bd]) := upd_same
    generalize hH10 : upd H9 sa (.tup [.str "source", .ref pa, bdV bd]) = H10 at k10 hsa10
    have ldp := hp8.there hld
    have k810 : Kp (tabs K) (On pen) H8 H10 := (kd.any.tr k9).trN k10
    have hld10 : H10 ld = some (.dK []) := k10.dK (k9.dK upd_same ldp) id
    have hp10 := hp9.kn k10
    have hst10 : StgAt K H10 sa x0 (.source pic bd) := ⟨pa, hsa10, hpa.kp k810 hp8.noPic⟩
    have hnl10 := k810.lst hnl8 nlp
    have hT10 := k810.tb hT8
    refine ⟨hld10, [(.inr x0, .ref sa)], rfl, (by show (1 : Nat) ≤ 15; decide), ?_⟩
    have k11 := Kp.put (T := tabs K) (o' := .dK (putK [] (.inr x0) (.ref sa))) hld10 True.intro
    have hld11 : (upd H10 ld (.dK (putK [] (Sum.inr x0 : Key) (.ref sa)))) ld = some (.dK (putK [] (.inr x0) (.ref sa))) := upd_same
    have hp11 := hp10.kpM k11 (fun z => hp10.ne1 hld10 (fun _ z => nomatch z) z) (fun z => hp10.ne2 hld10 (fun _ z => nomatch z) z)
    have hnl11 := k11.lst hnl10 (fun z => ne_of hnl10 hld10 (fun z => nomatch z) z)
    have hT11 := k11.tb hT10
    have hst11 := hst10.kp k11 (NoPic.dK hld10)
    refine fun x dx hx hdx hne => ?_
    have hx2 : (upd (upd H10 ld (.dK (putK [] (.inr x0) (.ref sa)))) dx (.own x)) x = none := (upd_ne (fun z => hne z.symm)).trans hx
    have k12 : Kp (tabs K) No (upd H10 ld (.dK (putK [] (.inr x0) (.ref sa)))) (upd (upd (upd H10 ld (.dK (putK [] (.inr x0) (.ref sa)))) dx (.own x)) x (.ins (He.ga K "Net") dx [])) := (Kp.new hdx).tr (.new hx2)
    refine ⟨x, dx, rfl, upd_same, fun H13 k13 N13 => ⟨rfl, _, _, rfl, ?_⟩⟩
    have N13L := N13.toL (k12.dK hld11 id)
    have kk : Kp (tabs K) No (upd H10 ld (.dK (putK [] (.inr x0) (.ref sa)))) H13 := (k12.any.tr k13).own hx
    have hld13 := kk.dK hld11 id
    have hp13 := hp11.kn kk
    have hnl13 := kk.lst hnl11 id
    have hT13 := kk.tb hT11
    have hst13 := hst11.kp kk NoPic.no
    have S13 := (Stgs.nil (K := K) (H := H13)).put (x := x0) (s := .source pic bd) (sa := sa) (of := x0) (n := pic.planes.length) (d := deep) (fun z => nomatch z) okx0 (by decide) hst13 rfl ⟨rfl, pok, by rw [pdep]; exact hbd, rfl, pdep.symm⟩
    obtain ⟨dx0, e0, h0, q0, qh0, ND0, _, _⟩ := id N13L
    have ev0 : valV (putK [] (Sum.inr x0 : Key) (V.ref sa)) (.inr x0) = some (.ref sa) := by rw [valV_put, if_pos rfl]
    refine ⟨_, rfl, x, dx0, _, rfl, ND0.ins, netF_no _ _ (by decide +kernel), ?_⟩
    refine ⟨_, rfl, _, _, _, _, rfl, rfl, SqL.of hnl13, atI_nat (j := 0) hm0, ?_⟩
    refine ⟨_, rfl, _, rfl, _, _, _, _, rfl, rfl, SqL.of hnl13, atI_nat (j := 0) hm0, ld, .ref sa, rfl, dget_k (k := .inr x0) hld13 ev0, ?_⟩
    refine ⟨x, [], [], x0, sa, x0, .source pic bd, pic.planes.length, deep, rfl, N13L.o, (fun z => nomatch z), okx0, (by decide), hst13, rfl, ⟨rfl, pok, by rw [pdep]; exact hbd, rfl, pdep.symm⟩, fun H14 k14 N14 => ?_⟩
    have tk1 : nm.take 1 = [x0] := by
      cases nm with
      | nil => cases hx0
      | cons y r => rw [← Option.some.inj hx0]; rfl
    have I14 : LI K H14 pen pl nl ld x nm (nm.take (0 + 1)) (b + 400) pic.planes.length deep (putK [] (.inr x0) (.ref sa)) [.source pic bd] := by
      rw [show 0 + 1 = 1 from rfl, tk1]
      exact ⟨k14.tb hT13, (hp13.kpM k14 (fun z => hp13.ne1 ND0.ins (fun _ z => nomatch z) z) (fun z => hp13.ne2 ND0.ins (fun _ z => nomatch z) z)).le (by omega), k14.lst hnl13 (fun z => ne_of hnl13 ND0.ins (fun z => nomatch z) z), nlp, k14.dK hld13 (fun z => ne_of hld13 ND0.ins (fun z => nomatch z) z), S13.kp k14 (NoPic.net ND0.ins), N14.toL hld13, ⟨rfl, pok, by rw [pdep]; exact hbd, rfl, pdep.symm⟩⟩
    have hL : (nm.map V.str).length = 2 + m := by rw [List.length_map, hlen]
    refine ⟨_, rfl, _, _, rfl, .inl (SqL.of I14.hn), ?_⟩
    refine ⟨1, ((nm.map V.str).length : Int), rfl, ⟨by decide, by decide, by omega, by omega⟩, ?_⟩
    refine for_range (lo := 1) (fun j σ H' => ∃ (v8 v9 : Option V) (dp : Int) (kvs : List (Key × V)) (ss : List Stg), σ = [some (.ref a), some (.ref pen), some (.int (0 + (k : Int))), some (.ref nl), some (.int dp), some (.ref pa), some (.ref ld), some (.ref x), v8, v9, v10, v11, v12, v13, v14, none] ∧ LI K H' pen pl nl ld x nm (nm.take (j + 1)) (b + 400 + 12 * j) pic.planes.length dp kvs ss ∧ 1 ≤ dp ∧ dp ≤ 900) ?_ (fun j σ H15 hj hv => ?_) fun σ H15 hv => ?_
    · exact ⟨v8, v9, deep, _, _, rfl, I14, d0, by omega⟩
    · obtain ⟨v8, v9, dp, kvs, ss, rfl, I, p0, p1⟩ := hv
      have hj2 : j + 1 < nm.length := by omega
      obtain ⟨xj, hxj⟩ : ∃ y, nm[j]? = some y := ⟨_, List.getElem?_eq_getElem (by omega)⟩
      obtain ⟨y, hy⟩ : ∃ y, nm[j + 1]? = some y := ⟨_, List.getElem?_eq_getElem hj2⟩
      have ey : (nm.map V.str)[((1 : Int) + (j : Int)).toNat]? = some (.str y) := by
        rw [show ((1 : Int) + (j : Int)).toNat = j + 1 by omega]
        exact map_at hy
      have aty : atI (nm.map V.str) ((1 : Int) + (j : Int)) = some (.str y) := atI_int (by omega) ey
      have atx : atI (nm.map V.str) ((1 : Int) + (j : Int) - 1) = some (.str xj) := by
        rw [show ((1 : Int) + (j : Int) - 1) = (j : Int) by omega]
        exact atI_nat (map_at hxj)
      refine ⟨_, rfl, _, rfl, _, rfl, _, _, rfl, rfl, _, _, _, _, rfl, rfl, SqL.of I.hn, atx, _, rfl, pen, pl, _, xj, dp, rfl, I.pn, p0, p1, by omega, fun H16 t sa2 s d' k16 hp16 ht hs lk => ?_⟩
      obtain ⟨hn1, q0, q1, hok⟩ := lk
      have I16 := I.pw k16 hp16
      have hlt : (nm.take (j + 1)).length = j + 1 := by rw [List.length_take]; omega
      have ynot : y ∉ nm.take (j + 1) := fun z => by
        obtain ⟨i, hi⟩ := List.getElem?_of_mem z
        have hil := (List.getElem?_eq_some_iff.mp hi).1
        rw [List.getElem?_take_of_lt (by omega)] at hi
        have := nodup_inj ndn hi hy
        omega
      have tks : nm.take (j + 1 + 1) = nm.take (j + 1) ++ [y] := by
        rw [List.take_succ, hy]
        rfl
      have last : (nm.take (j + 1)).getD ((nm.take (j + 1)).length - 1) "" = xj := by
        rw [hlt]
        exact getD_of (by rw [List.getElem?_take_of_lt (by omega)]; exact hxj)
      have made : madeV s xj = if (nm.take (j + 1)).length = 0 then [] else [(nm.take (j + 1)).getD ((nm.take (j + 1)).length - 1) ""] := by
        rw [last, if_neg (by omega)]
        unfold madeV
        rw [if_neg (by omega)]
      have oky := okn y (List.mem_of_getElem? hy)
      have chk := hok _ _ I.ok
      have klen : kvs.length = (nm.take (j + 1)).length := by
        have := congrArg List.length I.S.keys
        rwa [List.length_map, List.length_map] at this
      refine ⟨t, _, rfl, SqT.of ht, rfl, _, _, rfl, _, _, rfl, rfl, ?_⟩
      refine ⟨_, rfl, _, rfl, _, rfl, _, rfl, _, _, _, _, rfl, rfl, SqL.of I16.hn, aty, ld, _, rfl, DPut.k (k := .inr y) I16.hl (line_big (by omega)), ?_⟩
      have k17 := Kp.put (T := tabs K) (o' := .dK (putK kvs (.inr y) (.ref sa2))) I16.hl True.intro
      have hld17 : (upd H16 ld (.dK (putK kvs (Sum.inr y : Key) (.ref sa2)))) ld = some (.dK (putK kvs (.inr y) (.ref sa2))) := upd_same
      have hp17 := I16.pn.kpM k17 (fun z => I16.pn.ne1 I16.hl (fun _ z => nomatch z) z) (fun z => I16.pn.ne2 I16.hl (fun _ z => nomatch z) z)
      have hnl17 := k17.lst I16.hn (fun z => ne_of I16.hn I16.hl (fun z => nomatch z) z)
      have hs17 := hs.kp k17 (NoPic.dK I16.hl)
      have N17 := I16.N.ld I16.hl k17
      have S17 := (I16.S.kp k17 (NoPic.dK I16.hl)).put ynot oky (by omega) hs17 made chk
      have hT17 := k17.tb I16.tb
      generalize hH17 : upd H16 ld (.dK (putK kvs (Sum.inr y : Key) (.ref sa2))) = H17 at hld17 hp17 hnl17 hs17 N17 S17 hT17
      obtain ⟨dx1, e1, h1, q1', qh1, ND1, _, _⟩ := id N17
      refine ⟨_, rfl, x, dx1, _, rfl, ND1.ins, netF_no _ _ (by decide +kernel), ?_⟩
      refine ⟨_, rfl, _, rfl, _, _, _, _, rfl, rfl, SqL.of hnl17, aty, _, rfl, ?_⟩
      refine ⟨x, _, ss, y, sa2, xj, s, pic.planes.length, d', rfl, N17.o, ynot, oky, by omega, hs17, made, chk, fun H18 k18 N18 => ?_⟩
      refine ⟨_, _, d', putK kvs (.inr y) (.ref sa2), ss ++ [s], rfl, ?_, q0, q1⟩
      rw [tks]
      exact ⟨k18.tb hT17, (hp17.kpM k18 (fun z => hp17.ne1 ND1.ins (fun _ z => nomatch z) z) (fun z => hp17.ne2 ND1.ins (fun _ z => nomatch z) z)).le (by omega), k18.lst hnl17 (fun z => ne_of hnl17 ND1.ins (fun z => nomatch z) z), I16.nlp, k18.dK hld17 (fun z => ne_of hld17 ND1.ins (fun z => nomatch z) z), S17.kp k18 (NoPic.net ND1.ins), N18.toL hld17, by rw [List.reverse_append]; exact chk⟩
    obtain ⟨v8, v9, dp, kvs, ss, rfl, I, p0, p1⟩ := hv
    have ej : (((nm.map V.str).length : Int) - 1).toNat = 1 + m := by omega
    rw [ej] at I
    have tka : nm.take (1 + m + 1) = nm := List.take_of_length_le (by omega)
    rw [tka] at I
    replace I := I.le (b' := b + 520) (by omega)
    have sl : ss.length = nm.length := I.S.len.symm
    obtain ⟨xl, hxl⟩ : ∃ y, nm[1 + m]? = some y := ⟨_, List.getElem?_eq_getElem (by omega)⟩
    have okl : ChOk (ss.take (1 + m + 1)).reverse pic.planes.length dp := by
      rw [List.take_of_length_le (by omega)]
      exact I.ok
    have hlast : atI (nm.map V.str) (-1) = some (.str xl) := atI_last (by rw [show (nm.map V.str).length - 1 = 1 + m by omega]; exact map_at hxl)
    refine ⟨_, rfl, _, rfl, nl, _, rfl, SqL.of I.hn, fun c hc => ?_⟩
    rw [cut_one, ← List.map_drop]
    have kc : Kp (tabs K) No H15 (upd H15 c (.lst ((nm.drop 1).map V.str))) := .new hc
    have cp := I.pn.there hc
    refine ⟨c, rfl, ⟨_, SqL.of upd_same⟩, ?_⟩
    refine for_list (xs := (nm.drop 1).map V.str) (Pv := fun i σ H' => ∃ (v10 v11 : Option V), σ = [some (.ref a), some (.ref pen), some (.int (0 + (k : Int))), some (.ref nl), some (.int dp), some (.ref pa), some (.ref ld), some (.ref x), v8, v9, v10, v11, v12, v13, v14, none] ∧ LI K H' pen pl nl ld x nm nm (b + 520 + 4 * i) pic.planes.length dp kvs ss ∧ H' c = some (.lst ((nm.drop 1).map V.str))) ?_ (fun i σ H' _ p => ?_) (fun i y σ H16 hy p => ?_) fun σ H16 p => ?_
    · exact ⟨v10, v11, rfl, I.kn kc, upd_same⟩
    · obtain ⟨_, _, _, _, e⟩ := p
      exact SqL.of e
    · obtain ⟨v10, v11, rfl, I, hc16⟩ := p
      have hy2 : ∃ z, nm[i + 1]? = some z ∧ y = .str z := by
        rw [List.getElem?_map, List.getElem?_drop] at hy
        rw [Nat.add_comm i 1]
        cases e : nm[1 + i]? with
        | none => rw [e] at hy; cases hy
        | some z => rw [e] at hy; exact ⟨z, rfl, (Option.some.inj hy).symm⟩
      obtain ⟨z, hz, rfl⟩ := hy2
      have hi := (List.getElem?_eq_some_iff.mp hz).1
      refine ⟨_, rfl, pen, pl, _, 9, 5, rfl, I.pn, by decide, by decide, by decide, by decide, by omega, fun H17 wa win k17 hp17 hw wok => ?_⟩
      have hc17 := k17.lst hc16 cp
      have I17 := I.pw k17 hp17
      refine ⟨_, rfl, _, rfl, _, rfl, _, rfl, i + 1, by omega, x, ld, wa, kvs, nm, ss, z, win, rfl, I17.N.o, I17.hl, I17.S, I17.tb, hz, hw, wok, fun H18 k18 => ⟨_, rfl, iteF ?_⟩⟩
      have I18 := I17.kn k18
      obtain ⟨dx1, e1, h1, q1', qh1, ND1, _, _⟩ := id I18.N
      refine ⟨_, rfl, x, dx1, _, rfl, ND1.ins, netF_no _ _ (by decide +kernel), _, rfl, x, nm, ss, z, i + 1, rfl, I18.N.o, hz, fun sh n2 d2 hsh hok => ?_⟩
      refine ⟨_, rfl, _, rfl, i + 1, by omega, ld, kvs, nm, ss, z, n2, d2, rfl, I18.hl, I18.S, hz, hok, fun H19 t k19 ht => ?_⟩
      refine ⟨_, _, rfl, .inr ⟨sh, t, _, _, rfl, rfl, rfl, (by show (2 : Nat) ≤ 70000; decide), fun j u v e1 e2 => ?_, .inl ⟨k19.tp _ _ hsh, ht⟩⟩, fun H20 k20 => ⟨_, rfl, iteF ?_⟩⟩
      · match j, e1, e2 with
        | 0, e1, e2 => exact ⟨_, (Option.some.inj e1).symm, (Option.some.inj e2).symm⟩
        | 1, e1, e2 => exact ⟨_, (Option.some.inj e1).symm, (Option.some.inj e2).symm⟩
      · have kk := (k18.tr k19).tr k20
        exact ⟨_, _, rfl, (I17.kn kk).le (by omega), kk.lst hc17 id⟩
    · obtain ⟨v10, v11, rfl, I, _⟩ := p
      replace I := I.le (b' := b + 560) (by rw [List.length_map, List.length_drop]; omega)
      refine ⟨_, rfl, _, rfl, _, rfl, _, _, _, _, rfl, rfl, SqL.of I.hn, hlast, 1 + m, by omega, ld, kvs, nm, ss, xl, pic.planes.length, dp, rfl, I.hl, I.S, hxl, okl, fun H17 f fk k17 _ hf nums _ has => ?_⟩
      have I17 := I.kn k17
      obtain ⟨dx1, e1, h1, q1', qh1, ND1, _, _⟩ := id I17.N
      refine ⟨_, rfl, x, dx1, _, rfl, ND1.ins, netF_no _ _ (by decide +kernel), ?_⟩
      refine ⟨_, rfl, _, rfl, _, _, _, _, rfl, rfl, SqL.of I17.hn, hlast, ?_⟩
      refine ⟨_, rfl, pen, pl, _, 30, 9, rfl, I17.pn, by decide, by decide, by decide, by decide, by omega, fun H18 wa win k18 hp18 hw wok => ?_⟩
      have I18 := I17.pw k18 hp18
      have hf18 := k18.dK hf (fun z => I17.pn.ne1 hf (fun _ z => nomatch z) z.symm)
      refine ⟨1 + m, by omega, x, nm, ss, xl, wa, win, pic.planes.length, dp, rfl, I18.N.o, I18.tb, hxl, hw, wok, okl, fun H19 qa k19 hq => ?_⟩
      obtain ⟨qdx, qt, qi, rs, hqt, hrs⟩ := hq
      have I19 := I18.kn k19
      have hf19 := k19.dK hf18 id
      refine ⟨_, _, _, _, _, rfl, qi, X.c_Picture, X.n_Picture_planes, picF_planes _ _, qt, rfl, ⟨_, SqT.of hqt⟩, ?_⟩
      refine for_tup (xs := rs.map V.ref) (fun i σ H' => ∃ (v13 v14 : Option V), σ = [some (.ref a), some (.ref pen), some (.int (0 + (k : Int))), some (.ref nl), some (.int dp), some (.ref pa), some (.ref ld), some (.ref x), v8, v9, v10, v11, some (.ref f), v13, v14, none] ∧ Kp (tabs K) No H19 H') ?_ (fun i σ H' _ p => ?_) (fun i y σ H20 hy p => ?_) fun σ H20 p => ?_
      · exact ⟨v13, v14, rfl, .refl⟩
      · obtain ⟨_, _, _, k⟩ := p
        exact SqT.of (k.tp _ _ hqt)
      · obtain ⟨v13, v14, rfl, k20⟩ := p
        rw [List.getElem?_map] at hy
        cases ei : rs[i]? with
        | none => rw [ei] at hy; cases hy
        | some r1 =>
        rw [ei] at hy
        obtain rfl := (Option.some.inj hy).symm
        have hil : i < pic.planes.length := by
          have h2 := (List.getElem?_eq_some_iff.mp ei).1
          have h3 := hrs.len
          rw [show (wholePic (ss.take (1 + m + 1)).reverse pic.planes.length dp win).planes.length = pic.planes.length by show (grid _ _ _).length = _; unfold grid; rw [List.length_map, List.length_range]] at h3
          omega
        have epl : (wholePic (ss.take (1 + m + 1)).reverse pic.planes.length dp win).planes[i]? = some (planeOf win (fun u v p => val (ss.take (1 + m + 1)).reverse u v p) i) := by
          show (grid _ _ _)[i]? = _
          unfold grid
          rw [List.getElem?_map, List.getElem?_range hil]
          rfl
        obtain ⟨rs1, ht1, ha1⟩ := hrs.at_ i r1 _ ei epl
        refine ⟨_, rfl, r1, rfl, ⟨_, SqT.of (k20.tp _ _ ht1)⟩, ?_⟩
        refine for_tup (xs := rs1.map V.ref) (fun j σ H' => ∃ (v14 : Option V), σ = [some (.ref a), some (.ref pen), some (.int (0 + (k : Int))), some (.ref nl), some (.int dp), some (.ref pa), some (.ref ld), some (.ref x), v8, v9, v10, v11, some (.ref f), some (.ref r1), v14, none] ∧ Kp (tabs K) No H19 H') ?_ (fun j σ H' _ p => ?_) (fun j y σ H21 hy p => ?_) fun σ H21 p => ?_
        · exact ⟨v14, rfl, k20⟩
        · obtain ⟨_, _, k⟩ := p
          exact SqT.of (k.tp _ _ ht1)
        · obtain ⟨v14, rfl, k21⟩ := p
          rw [List.getElem?_map] at hy
          cases ej2 : rs1[j]? with
          | none => rw [ej2] at hy; cases hy
          | some r2 =>
          rw [ej2] at hy
          obtain rfl := (Option.some.inj hy).symm
          have hjl : j < win.h.toNat := by
            have h2 := (List.getElem?_eq_some_iff.mp ej2).1
            have h3 := ha1.len
            unfold planeOf at h3
            rw [List.length_map, List.length_range] at h3
            omega
          have erow : (planeOf win (fun u v p => val (ss.take (1 + m + 1)).reverse u v p) i)[j]? = some (rowOf win (fun u v p => val (ss.take (1 + m + 1)).reverse u v p) i j) := by
            unfold planeOf
            rw [List.getElem?_map, List.getElem?_range hjl]
            rfl
          have hrow : H19 r2 = some (.tup ((rowOf win (fun u v p => val (ss.take (1 + m + 1)).reverse u v p) i j).map V.int)) := ha1.at_ j r2 _ ej2 erow
          have hrow2 := k21.tp _ _ hrow
          have hf21 := k21.dK hf19 id
          refine ⟨_, rfl, r2, rfl, ⟨_, SqT.of hrow2⟩, fun D' hD => lc_tup (xs := (rowOf win (fun u v p => val (ss.take (1 + m + 1)).reverse u v p) i j).map V.int) (fun _ H' => Kp (tabs K) No H21 H' ∧ H' D' = some (.lst [])) ⟨.new hD, upd_same⟩ (fun _ H' _ p => SqT.of (p.1.tp _ _ hrow2)) (fun i' y' H22 hy' p => ?_) fun H22 p => ?_⟩
          · obtain ⟨mm, em, rfl⟩ := nth_int hy'
            obtain ⟨k22, hD22⟩ := p
            have hm2 : ∃ u v, mm = val (ss.take (1 + m + 1)).reverse u v i := by
              unfold rowOf at em
              rw [List.getElem?_map] at em
              cases e : (List.range win.w.toNat)[i']? with
              | none => rw [e] at em; cases em
              | some q => rw [e] at em; exact ⟨_, _, (Option.some.inj em).symm⟩
            obtain ⟨u, v, rfl⟩ := hm2
            obtain ⟨vv, ev⟩ := has u v i hil
            refine ⟨rfl, ?_⟩
            refine ⟨_, rfl, _, rfl, f, _, rfl, DGet.k (k := .inl (val (ss.take (1 + m + 1)).reverse u v i)) (k22.dK hf21 id), ?_⟩
            rw [ev]
            exact ⟨_, rfl, iteF ⟨k22, hD22⟩⟩
          · obtain ⟨k22, hD22⟩ := p
            refine ⟨Nat.zero_le _, fun e he => ?_⟩
            have ke : Kp (tabs K) No H22 (upd H22 e (.lst [])) := .new he
            refine ⟨_, _, dp_sl (xs := []) (ke.lst hD22 id), dp_sl (xs := []) upd_same, shaped_strs (fun x hx => nomatch hx), shaped_strs (fun x hx => nomatch hx), ?_⟩
            rw [eqv_nil]
            exact ⟨_, rfl, iteF ⟨_, rfl, (k21.tr k22).tr ke⟩⟩
        · obtain ⟨v14, rfl, k21⟩ := p
          exact ⟨_, _, rfl, k21⟩
      · obtain ⟨v13, v14, rfl, k20⟩ := p
        have I20 := I19.kn k20
        exact ⟨_, _, _, _, _, _, _, _, _, _, _, _, _, rfl, I20.tb, I20.pn.le (by omega)⟩
  · obtain ⟨v2, v3, v4, v5, v6, v7, v8, v9, v10, v11, v12, v13, v14, rfl, _, _⟩ := hv
    exact q _
end
end K9

set_option maxHeartbeats 4000000
namespace K9
open PySem PySem.Spec PyProof.Rows L2 NdefX LamX
abbrev LW : PySem.W.OpenLaw := PySem.Challenge.rw_pixelstages_k09_whole_rows_of_geometry
theorem law_at (w : World) (mg : Str → Option Value) (fa' : Addr) (h : Heap) (Y : hkY.says w h) (G : h.Ns mainGlobals mg) (hm : mg "law" = some (.ref fa')) :
    ∃ K : PySem.W.Frag, K.In h ∧ LawAtS LW w K CX0 80 63 "_law_script" mg fa' h := by
  obtain ⟨K, X, c⟩ := Y
  have TX : Tx w K mg := ⟨⟨h, X, G, c⟩⟩
  obtain ⟨fd, D⟩ := TX.def_ 66 (d := dd_law) rfl
  have D : FunD K "law" "law" (defArgs s_law) (defBody s_law) (defScope s_law) [] [] (He.ga K "law") fd := D
  have ef : fa' = He.ga K "law" := by
    have e := TX.g_law
    rw [hm] at e
    injection e with e1
    injection e1
  subst ef
  have bd := FunD.bindsA (ps := ["_law_script"]) D fun _ _ _ _ _ _ us hl => match us, hl with | [_], _ => by kernel_rfl
  refine ⟨K, X, fd, tf.map (He.cT K), spLaw K (tabs K), fun p hp => ?_, fun p hp => ?_, fun p hp => ?_, fun s u => bd s [u] rfl, fun H a ns _ _ hH hS => ⟨a, ns, rfl, hS, fun p hp => ?_, fun _ => rfl⟩, fun base X' G' TB => ?_⟩
  · obtain ⟨q, hq, rfl⟩ := List.mem_map.mp hp
    exact c.empty q hq
  · obtain ⟨q, hq, rfl⟩ := List.mem_map.mp hp
    exact c.out q hq
  · obtain ⟨q, hq, rfl⟩ := List.mem_map.mp hp
    exact PySem.W.codeHd_of_K X (c.hd q hq)
  · have h0 := hH (He.cT K dNum) (List.mem_map.mpr ⟨dNum, List.mem_cons_self, rfl⟩)
    have h1 := hH (He.cT K dWho) (List.mem_map.mpr ⟨dWho, List.mem_cons_of_mem _ List.mem_cons_self, rfl⟩)
    rcases List.mem_cons.mp hp with z | z
    · rw [z]
      exact TabN.nil h0
    · rw [List.mem_singleton.mp z]
      exact TabN.nil h1
  · exact ok_law (P := LW.prog) TX ⟨TB _ (List.mem_map.mpr ⟨dNum, List.mem_cons_self, rfl⟩), TB _ (List.mem_map.mpr ⟨dWho, List.mem_cons_of_mem _ List.mem_cons_self, rfl⟩)⟩ D
end K9
open PySem PySem.W PySem.Calls PyProof.Rows in
theorem PySem.Challenge.cw_pixelstages_k09_whole_rows_of_geometry_holds : PySem.Challenge.rw_pixelstages_k09_whole_rows_of_geometry.Holds := by
  w_on; o_law
  refine HandSHeadRun.head_any (r := K9.R) (q := K9.qv) (H := K9.hkY) (ob := K9.obT) (M := 8300) (loose := K9.loose) (d := HandSHeadRun.topDef K9.R.prog 182) (kwd := []) K9.obY_eq
    (by kernel_rfl) (fun s => by kernel_rfl) K9.runs (by kernel_rfl) (by kernel_rfl) (by kernel_rfl) (by rfl) (by first | assumption | decide +kernel) (by decide +kernel) ⟨rfl, rfl, rfl, rfl, rfl, by decide +kernel⟩ ?hw ?hc
  case hw => w_witness2
  case hc =>
    refine LamX.walk_ofTsE (l := PySem.Challenge.rw_pixelstages_k09_whole_rows_of_geometry) (n := 63) (k := 80) (x := "_law_script") (CX := fun _ => L2.CX0) rfl (by decide) (by kernel_rfl) ⟨rfl, by decide, by decide⟩ ?F (fun _ _ _ _ _ z => z)
    intro w mg fa h Y G hmg0
    have hmg : mg ("law" : PySem.Str) = some (.ref fa) := by
      have e : (HandSHeadRun.topDef K9.R.prog 182).name = ("law" : PySem.Str) := by kernel_rfl
      rw [← e]
      exact hmg0
    exact K9.law_at w mg fa h Y G hmg
